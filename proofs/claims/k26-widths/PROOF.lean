import PyProof.Rows.All
import Wide.All
import OpenK.AllK
import Wide.FinOn
import HandS.Base
import HandS.Call
import HandS.List
import HandS.Comp
import HandS.Ends
import HandS.Exc
import HandS.TryOnly
import HandS.ExcOwn
import HandS.WordsExc
import HandS.Words
import HandS.Wide
import HandS.Iter
import HandS.IsInst
import HandS.Text
import HandS.Flow
import HandS.HeadEnd
import HandS.EndBits
import HandS.HeadHook2
import HandS.Head2
import HandS.Defaults
import HandS.ExcIs
import HandS.Style
import HandS.More
import HandS.ClsMeth
import HandS.Property
import HandS.Star
import HandS.CallLocal
import HandS.HeadNt
import KE.KExcIs
import HandS.Strs
import HandS.ExcInit
import HandS.SetFor
import KE.IntTextLaws
import KE.IntTextText
import KE.KIntText
import HandS.DictSub
import HandS.RaiseMore
import PyProof.FactsLen
import HandS.Conv
import HandS.Dict
import HandS.SortRule
import HandS.Zip
import PyProof.EqAt
import PyProof.EqKinds
import HandS.TupLe
import PyProof.MinMaxWalk
import PyProof.WalkInts
import HandS.Deep
import HandS.DictComp
import KE.KDictList
import HandS.TupSets
import HandS.SetBool
import KE.KUnpack
import HandS.SortKw
import KE.KStateDown
import HandS.Head0
import HandS.Head1
import HandS.HeadHook1
import PySem.Challenge.RW_runtabs_k26_widths_for_letters
set_option Elab.async false
set_option linter.all false
set_option maxRecDepth 100000
set_option maxHeartbeats 0
namespace DL
open PySem PySem.Spec PyProof.Rows L2
/-- data: what a value stands for; own h: the list in the h-th cell -/
inductive D where
  | non | bl (b : Bool) | int (i : Int) | str (x : Str)
  | lst (ds : List D) | tup (ds : List D)
  | sq (ds : List D)
  | ins (C : Addr) (fs : List (Str × D))
  | dic (kvs : List (Key × D))
  | obj (a : Addr)
  | own (h : Nat)
  | ty (n : String)
  | exc (C : Addr) (fs : List (Str × D))
inductive Cell where
  | lst (ds : List D)
  | ins (C : Addr) (fs : List (Str × D))
  | dct (kvs : List (List Key × D))
  | dck (kvs : List (Key × D))
  | lck (o : Obj) (us : List (Key × V)) (kvs : List (Key × D))
  | gone
abbrev Gam := List (Option D)
abbrev Sto := List Cell
mutual
inductive Rp (K : PySem.W.Frag) (F : Hp) (al : List Addr) : V → D → Prop
  | non : Rp K F al .non .non
  | bl (b : Bool) : Rp K F al (.bl b) (.bl b)
  | int (i : Int) : Rp K F al (.int i) (.int i)
  | str (x : Str) : Rp K F al (.str x) (.str x)
  | lst {a : Addr} {xs : List V} {ds : List D} : F a = some (.lst xs) → RpA K F al xs ds → Rp K F al (.ref a) (.lst ds)
  | sq {a : Addr} {xs : List V} {ds : List D} : SqL K F a xs → RpA K F al xs ds → Rp K F al (.ref a) (.sq ds)
  | tup {a : Addr} {xs : List V} {ds : List D} : SqT K F a xs → RpA K F al xs ds → Rp K F al (.ref a) (.tup ds)
  | ins {a C dx : Addr} {vs : List (Str × V)} {fs : List (Str × D)} : F a = some (.ins C dx vs) → RpF K F al vs fs → Rp K F al (.ref a) (.ins C fs)
  | dic {a : Addr} {vs : List (Key × V)} {ds : List (Key × D)} : F a = some (.dK vs) → RpK K F al vs ds → Rp K F al (.ref a) (.dic ds)
  | obj (a : Addr) : Rp K F al (.ref a) (.obj a)
  | own {h : Nat} {a : Addr} : al[h]? = some a → Rp K F al (.ref a) (.own h)
  | ty (n : String) : Rp K F al (.ty n) (.ty n)
  | exc0 {a C : Addr} {oe : Obj} {u : HO} : F a = some (.frz oe u) → oe.cls = .ref C → (∃ vs, oe.data = .fields vs) → oe.dict = none → Rp K F al (.ref a) (.exc C [])
  | excD {a C dx : Addr} {oe : Obj} {u : HO} {vs : List (Str × V)} {fs : List (Str × D)} : F a = some (.frz oe u) → oe.cls = .ref C → (∃ ws, oe.data = .fields ws) → oe.dict = some dx → F dx = some (.xd vs) → RpF K F al vs fs → Rp K F al (.ref a) (.exc C fs)
inductive RpA (K : PySem.W.Frag) (F : Hp) (al : List Addr) : List V → List D → Prop
  | nil : RpA K F al [] []
  | cons {v : V} {vs : List V} {d : D} {ds : List D} : Rp K F al v d → RpA K F al vs ds → RpA K F al (v :: vs) (d :: ds)
inductive RpF (K : PySem.W.Frag) (F : Hp) (al : List Addr) : List (Str × V) → List (Str × D) → Prop
  | nil : RpF K F al [] []
  | cons {n : Str} {v : V} {vs : List (Str × V)} {d : D} {ds : List (Str × D)} : Rp K F al v d → RpF K F al vs ds → RpF K F al ((n, v) :: vs) ((n, d) :: ds)
inductive RpK (K : PySem.W.Frag) (F : Hp) (al : List Addr) : List (Key × V) → List (Key × D) → Prop
  | nil : RpK K F al [] []
  | cons {n : Key} {v : V} {vs : List (Key × V)} {d : D} {ds : List (Key × D)} : Rp K F al v d → RpK K F al vs ds → RpK K F al ((n, v) :: vs) ((n, d) :: ds)
end
theorem sameSql {K : PySem.W.Frag} {F F' : Hp} {a : Addr} {xs : List V} (e : ∀ b o, F b = some o → F' b = some o) (h : SqL K F a xs) : SqL K F' a xs := by
  rcases h with (h | ⟨o, h⟩) | h
  · exact .inl (.inl (e _ _ h))
  · exact .inl (.inr ⟨o, e _ _ h⟩)
  · exact .inr h
theorem sameSqt {K : PySem.W.Frag} {F F' : Hp} {a : Addr} {xs : List V} (e : ∀ b o, F b = some o → F' b = some o) (h : SqT K F a xs) : SqT K F' a xs := by
  rcases h with (h | ⟨o, h⟩) | h
  · exact .inl (.inl (e _ _ h))
  · exact .inl (.inr ⟨o, e _ _ h⟩)
  · exact .inr h
section
variable {K : PySem.W.Frag} {F F' : Hp} {al al' : List Addr}
mutual
theorem Rp.mono (e : ∀ b o, F b = some o → F' b = some o) (ea : ∀ (h : Nat) (a : Addr), al[h]? = some a → al'[h]? = some a) : ∀ (d : D) (v : V), Rp K F al v d → Rp K F' al' v d
  | .non, _, h => by cases h; exact .non
  | .bl _, _, h => by cases h; exact .bl _
  | .int _, _, h => by cases h; exact .int _
  | .str _, _, h => by cases h; exact .str _
  | .lst ds, _, h => by
    cases h with
    | lst h1 h2 => exact .lst (e _ _ h1) (RpA.mono e ea ds _ h2)
  | .sq ds, _, h => by
    cases h with
    | sq h1 h2 => exact .sq (sameSql e h1) (RpA.mono e ea ds _ h2)
  | .tup ds, _, h => by
    cases h with
    | tup h1 h2 => exact .tup (sameSqt e h1) (RpA.mono e ea ds _ h2)
  | .ins C fs, _, h => by
    cases h with
    | ins h1 h2 => exact .ins (e _ _ h1) (RpF.mono e ea fs _ h2)
  | .dic fs, _, h => by
    cases h with
    | dic h1 h2 => exact .dic (e _ _ h1) (RpK.mono e ea fs _ h2)
  | .obj _, _, h => by cases h; exact .obj _
  | .own _, _, h => by
    cases h with
    | own h1 => exact .own (ea _ _ h1)
  | .ty _, _, h => by cases h; exact .ty _
  | .exc C fs, _, h => by
    cases h with
    | exc0 h1 h2 h0 h3 => exact .exc0 (e _ _ h1) h2 h0 h3
    | excD h1 h2 h0 h3 h4 h5 => exact .excD (e _ _ h1) h2 h0 h3 (e _ _ h4) (RpF.mono e ea fs _ h5)
theorem RpA.mono (e : ∀ b o, F b = some o → F' b = some o) (ea : ∀ (h : Nat) (a : Addr), al[h]? = some a → al'[h]? = some a) : ∀ (ds : List D) (vs : List V), RpA K F al vs ds → RpA K F' al' vs ds
  | [], _, h => by cases h; exact .nil
  | d :: ds, _, h => by
    cases h with
    | cons h1 h2 => exact .cons (Rp.mono e ea d _ h1) (RpA.mono e ea ds _ h2)
theorem RpF.mono (e : ∀ b o, F b = some o → F' b = some o) (ea : ∀ (h : Nat) (a : Addr), al[h]? = some a → al'[h]? = some a) : ∀ (ds : List (Str × D)) (vs : List (Str × V)), RpF K F al vs ds → RpF K F' al' vs ds
  | [], _, h => by cases h; exact .nil
  | (n, d) :: ds, _, h => by
    cases h with
    | cons h1 h2 => exact .cons (Rp.mono e ea d _ h1) (RpF.mono e ea ds _ h2)
theorem RpK.mono (e : ∀ b o, F b = some o → F' b = some o) (ea : ∀ (h : Nat) (a : Addr), al[h]? = some a → al'[h]? = some a) : ∀ (ds : List (Key × D)) (vs : List (Key × V)), RpK K F al vs ds → RpK K F' al' vs ds
  | [], _, h => by cases h; exact .nil
  | (n, d) :: ds, _, h => by
    cases h with
    | cons h1 h2 => exact .cons (Rp.mono e ea d _ h1) (RpK.mono e ea ds _ h2)
end
theorem RpA.length : ∀ {vs : List V} {ds : List D}, RpA K F al vs ds → vs.length = ds.length
  | _, _, .nil => rfl
  | _, _, .cons _ t => by rw [List.length_cons, List.length_cons, RpA.length t]
theorem RpA.get : ∀ {vs : List V} {ds : List D} {i : Nat} {d : D}, RpA K F al vs ds → ds[i]? = some d → ∃ v, vs[i]? = some v ∧ Rp K F al v d
  | _, _, i, _, .nil, e => by simp at e
  | _, _, 0, _, .cons r _, e => by simp at e; subst e; exact ⟨_, rfl, r⟩
  | _, _, i + 1, d, .cons _ t, e => by
    obtain ⟨v, h1, h2⟩ := RpA.get (i := i) (d := d) t (by simpa using e)
    exact ⟨v, by simpa using h1, h2⟩
theorem RpA.getV : ∀ {vs : List V} {ds : List D} {i : Nat} {v : V}, RpA K F al vs ds → vs[i]? = some v → ∃ d, ds[i]? = some d ∧ Rp K F al v d
  | _, _, i, _, .nil, e => by simp at e
  | _, _, 0, _, .cons r _, e => by simp at e; subst e; exact ⟨_, rfl, r⟩
  | _, _, i + 1, d, .cons _ t, e => by
    obtain ⟨v, h1, h2⟩ := RpA.getV (i := i) (v := d) t (by simpa using e)
    exact ⟨v, by simpa using h1, h2⟩
theorem RpA.append : ∀ {vs ws : List V} {ds es : List D}, RpA K F al vs ds → RpA K F al ws es → RpA K F al (vs ++ ws) (ds ++ es)
  | _, _, _, _, .nil, s => s
  | _, _, _, _, .cons r t, s => .cons r (RpA.append t s)
theorem RpA.set {v : V} {d : D} (r : Rp K F al v d) : ∀ {vs : List V} {ds : List D} (i : Nat), RpA K F al vs ds → RpA K F al (vs.set i v) (ds.set i d)
  | _, _, _, .nil => .nil
  | _, _, 0, .cons _ t => .cons r t
  | _, _, i + 1, .cons q t => .cons q (RpA.set r i t)
theorem RpA.take : ∀ {vs : List V} {ds : List D} (n : Nat), RpA K F al vs ds → RpA K F al (vs.take n) (ds.take n)
  | _, _, 0, _ => .nil
  | _, _, _ + 1, .nil => .nil
  | _, _, n + 1, .cons r t => .cons r (RpA.take n t)
theorem RpA.drop : ∀ {vs : List V} {ds : List D} (n : Nat), RpA K F al vs ds → RpA K F al (vs.drop n) (ds.drop n)
  | _, _, 0, r => r
  | _, _, _ + 1, .nil => .nil
  | _, _, n + 1, .cons _ t => RpA.drop n t
theorem RpA.reverse : ∀ {vs : List V} {ds : List D}, RpA K F al vs ds → RpA K F al vs.reverse ds.reverse
  | _, _, .nil => .nil
  | _, _, .cons r t => by
    rw [List.reverse_cons, List.reverse_cons]
    exact (RpA.reverse t).append (.cons r .nil)
end
/-- where one stands: the frozen part, the cells' addresses, the whole -/
structure Hs where
  F : Hp
  al : List Addr
  H : Hp
abbrev Rv (K : PySem.W.Frag) (w : Hs) (v : V) (d : D) : Prop := Rp K w.F w.al v d
abbrev Ra (K : PySem.W.Frag) (w : Hs) (vs : List V) (ds : List D) : Prop := RpA K w.F w.al vs ds
/-- the entries of a dict whose keys are tuples -/
def RpT (K : PySem.W.Frag) (F : Hp) (al : List Addr) (us : List (List Key × V)) (ks : List (List Key × D)) : Prop :=
  us.length = ks.length ∧ ∀ (i : Nat) (k : List Key) (d : D), ks[i]? = some (k, d) → ∃ v, us[i]? = some (k, v) ∧ Rp K F al v d
theorem RpT.mono {K : PySem.W.Frag} {F F' : Hp} {al al' : List Addr} (e : ∀ b o, F b = some o → F' b = some o) (ea : ∀ (h : Nat) (a : Addr), al[h]? = some a → al'[h]? = some a) {us : List (List Key × V)} {ks : List (List Key × D)} (h : RpT K F al us ks) : RpT K F' al' us ks :=
  ⟨h.1, fun i k d q => let ⟨v, a, b⟩ := h.2 i k d q; ⟨v, a, Rp.mono e ea d v b⟩⟩
def CellOk (K : PySem.W.Frag) (w : Hs) (a : Addr) : Cell → Prop
  | .lst ds => w.F a = none ∧ ∃ xs, w.H a = some (.lst xs) ∧ Ra K w xs ds
  | .ins C fs => w.F a = none ∧ ∃ dx vs, w.H a = some (.ins C dx vs) ∧ RpF K w.F w.al vs fs
  | .dct ks => w.F a = none ∧ ∃ us, w.H a = some (.dT us) ∧ RpT K w.F w.al us ks
  | .dck ks => w.F a = none ∧ ∃ us, w.H a = some (.dK us) ∧ RpK K w.F w.al us ks
  | .lck o us ks => w.F a = none ∧ w.H a = some (.frz o (.dK us)) ∧ RpK K w.F w.al us ks
  | .gone => True
structure Good (K : PySem.W.Frag) (w : Hs) (S : Sto) : Prop where
  sub : ∀ a o, w.F a = some o → w.H a = some o
  nd : w.al.Nodup
  len : w.al.length = S.length
  cell : ∀ (h : Nat) (a : Addr) (c : Cell), w.al[h]? = some a → S[h]? = some c → CellOk K w a c
  dom : ∀ a ∈ w.al, w.H a ≠ none
structure Ext (w w' : Hs) : Prop where
  f : ∀ a o, w.F a = some o → w'.F a = some o
  al : ∃ β, w'.al = w.al ++ β ∧ ∀ b ∈ β, w.H b = none
  new : ∀ a o, w'.F a = some o → w.F a = some o ∨ w.H a = none ∨ a ∈ w.al
  kp : ∀ a o, w.H a = some o → a ∉ w.al → w'.H a = some o
  dm : ∀ a, w.H a ≠ none → w'.H a ≠ none
theorem Ext.refl (w : Hs) : Ext w w := ⟨fun _ _ h => h, ⟨[], by simp, by simp⟩, fun _ _ h => .inl h, fun _ _ h _ => h, fun _ h => h⟩
theorem Ext.alx {w w' : Hs} (e : Ext w w') : ∀ (h : Nat) (a : Addr), w.al[h]? = some a → w'.al[h]? = some a := fun h a q => by
  obtain ⟨β, eq, _⟩ := e.al
  rw [eq, List.getElem?_append_left (List.getElem?_eq_some_iff.mp q).1]
  exact q
theorem Ext.mem {w w' : Hs} (e : Ext w w') {a : Addr} (h : a ∈ w.al) : a ∈ w'.al := by
  obtain ⟨β, eq, _⟩ := e.al
  rw [eq]
  exact List.mem_append_left _ h
theorem Ext.old {w w' : Hs} (e : Ext w w') {a : Addr} (h : a ∈ w'.al) : a ∈ w.al ∨ w.H a = none := by
  obtain ⟨β, eq, hb⟩ := e.al
  rw [eq] at h
  rcases List.mem_append.mp h with z | z
  · exact .inl z
  · exact .inr (hb a z)
theorem Ext.fresh {w w' : Hs} (e : Ext w w') {a : Addr} (h : w'.H a = none) : w.H a = none := by
  cases q : w.H a with
  | none => rfl
  | some o => exact absurd h (e.dm a (by rw [q]; exact fun z => nomatch z))
theorem Ext.trans {w w1 w2 : Hs} (a : Ext w w1) (b : Ext w1 w2) : Ext w w2 where
  f := fun x o h => b.f x o (a.f x o h)
  al := by
    obtain ⟨β, e1, h1⟩ := a.al
    obtain ⟨γ, e2, h2⟩ := b.al
    refine ⟨β ++ γ, by rw [e2, e1, List.append_assoc], fun x hx => ?_⟩
    rcases List.mem_append.mp hx with z | z
    · exact h1 x z
    · exact a.fresh (h2 x z)
  new := fun x o h => by
    rcases b.new x o h with z | z | z
    · exact a.new x o z
    · exact .inr (.inl (a.fresh z))
    · rcases a.old z with y | y
      · exact .inr (.inr y)
      · exact .inr (.inl y)
  kp := fun x o h n => b.kp x o (a.kp x o h n) fun z => by
    rcases a.old z with y | y
    · exact n y
    · rw [h] at y; cases y
  dm := fun x h => b.dm x (a.dm x h)
theorem Ext.rp {K : PySem.W.Frag} {w w' : Hs} (e : Ext w w') {v : V} {d : D} (h : Rv K w v d) : Rv K w' v d := Rp.mono e.f e.alx d v h
theorem Ext.ra {K : PySem.W.Frag} {w w' : Hs} (e : Ext w w') {v : List V} {d : List D} (h : Ra K w v d) : Ra K w' v d := RpA.mono e.f e.alx d v h
/-- slots -/
def Slots (K : PySem.W.Frag) (w : Hs) (σ : L2.St) (Γ : Gam) : Prop := Γ.length = σ.length ∧ ∀ (i : Nat) (d : D), Γ[i]? = some (some d) → ∃ v, σ[i]? = some (some v) ∧ Rv K w v d
theorem Slots.ext {K : PySem.W.Frag} {w w' : Hs} {σ : L2.St} {Γ : Gam} (e : Ext w w') (h : Slots K w σ Γ) : Slots K w' σ Γ :=
  ⟨h.1, fun i d q => let ⟨v, a, b⟩ := h.2 i d q; ⟨v, a, e.rp b⟩⟩
theorem Slots.set {K : PySem.W.Frag} {w : Hs} {σ : L2.St} {Γ : Gam} {v : V} {d : D} (h : Slots K w σ Γ) (r : Rv K w v d) (i : Nat) : Slots K w (σ.set i (some v)) (Γ.set i (some d)) := by
  refine ⟨by rw [List.length_set, List.length_set]; exact h.1, fun j e q => ?_⟩
  by_cases hj : i = j
  · subst hj
    by_cases hl : i < Γ.length
    · rw [List.getElem?_set_self hl] at q
      cases q
      exact ⟨v, by rw [List.getElem?_set_self (by rw [← h.1]; exact hl)], r⟩
    · rw [List.getElem?_eq_none (by rw [List.length_set]; omega)] at q
      cases q
  · rw [List.getElem?_set_ne hj] at q
    obtain ⟨u, a, b⟩ := h.2 j e q
    exact ⟨u, by rw [List.getElem?_set_ne hj]; exact a, b⟩
/-- a slot forgotten -/
theorem Slots.unset {K : PySem.W.Frag} {w : Hs} {σ : L2.St} {Γ : Gam} (h : Slots K w σ Γ) (i : Nat) : Slots K w (σ.set i none) (Γ.set i none) := by
  refine ⟨by rw [List.length_set, List.length_set]; exact h.1, fun j e q => ?_⟩
  by_cases hj : i = j
  · subst hj
    by_cases hl : i < Γ.length
    · rw [List.getElem?_set_self hl] at q
      cases q
    · rw [List.getElem?_eq_none (by rw [List.length_set]; omega)] at q
      cases q
  · rw [List.getElem?_set_ne hj] at q
    obtain ⟨u, a, b⟩ := h.2 j e q
    exact ⟨u, by rw [List.getElem?_set_ne hj]; exact a, b⟩
def gwipe (Γ : Gam) : List Nat → Gam
  | [] => Γ
  | v :: vs => (gwipe Γ vs).set v none
theorem Slots.wipe {K : PySem.W.Frag} {w : Hs} {σ : L2.St} {Γ : Gam} (h : Slots K w σ Γ) : ∀ vs : List Nat, Slots K w (L2.wipe σ vs) (gwipe Γ vs)
  | [] => h
  | v :: vs => (Slots.wipe h vs).unset v
section
variable {K : PySem.W.Frag} {w : Hs} {S : Sto}
/-- a new frozen object -/
def Hs.frz (w : Hs) (p : Addr) (o : HO) : Hs := ⟨upd w.F p o, w.al, upd w.H p o⟩
theorem Good.notF (g : Good K w S) {p : Addr} (h : w.H p = none) : w.F p = none := by
  cases q : w.F p with
  | none => rfl
  | some o => rw [g.sub p o q] at h; cases h
theorem Good.notA (g : Good K w S) {p : Addr} (h : w.H p = none) : p ∉ w.al := fun z => g.dom p z h
theorem updF {H : Hp} {p : Addr} {o : HO} (h : H p = none) : ∀ a x, H a = some x → upd H p o a = some x := fun a x e => by
  rw [upd_ne (ne_of_none e h)]
  exact e
theorem Ext.frz (g : Good K w S) {p : Addr} (o : HO) (h : w.H p = none) : Ext w (w.frz p o) where
  f := updF (g.notF h)
  al := ⟨[], by simp [Hs.frz], by simp⟩
  new := fun a x e => by
    by_cases q : a = p
    · subst q; exact .inr (.inl h)
    · have e2 : upd w.F p o a = some x := e
      rw [upd_ne q] at e2
      exact .inl e2
  kp := fun a x e _ => updF h a x e
  dm := fun a e => by
    show upd w.H p o a ≠ none
    by_cases q : a = p
    · subst q; rw [upd_same]; exact fun z => nomatch z
    · rw [upd_ne q]; exact e
theorem cell_ext {w w' : Hs} (e : Ext w w') {a : Addr} {c : Cell} (hF : w.F a = none → w'.F a = none) (hH : ∀ o, w.H a = some o → w'.H a = some o) (h : CellOk K w a c) : CellOk K w' a c := by
  cases c with
  | gone => exact True.intro
  | lst ds =>
    obtain ⟨h1, xs, h2, h3⟩ := h
    exact ⟨hF h1, xs, hH _ h2, e.ra h3⟩
  | ins C fs =>
    obtain ⟨h1, dx, vs, h2, h3⟩ := h
    exact ⟨hF h1, dx, vs, hH _ h2, RpF.mono e.f e.alx fs vs h3⟩
  | dct ks =>
    obtain ⟨h1, us, h2, h3⟩ := h
    exact ⟨hF h1, us, hH _ h2, h3.mono e.f e.alx⟩
  | dck ks =>
    obtain ⟨h1, us, h2, h3⟩ := h
    exact ⟨hF h1, us, hH _ h2, RpK.mono e.f e.alx ks us h3⟩
  | lck o us ks =>
    obtain ⟨h1, h2, h3⟩ := h
    exact ⟨hF h1, hH _ h2, RpK.mono e.f e.alx ks us h3⟩
theorem Good.frz (g : Good K w S) {p : Addr} (o : HO) (h : w.H p = none) : Good K (w.frz p o) S := by
  have e := Ext.frz g o h
  refine ⟨fun a x q => ?_, g.nd, g.len, fun n a c q1 q2 => ?_, fun a q => e.dm a (g.dom a q)⟩
  · have q2 : upd w.F p o a = some x := q
    show upd w.H p o a = some x
    by_cases z : a = p
    · subst z; rw [upd_same] at q2 ⊢; exact q2
    · rw [upd_ne z] at q2 ⊢; exact g.sub a x q2
  · have hne : a ≠ p := fun z => g.dom a (List.mem_of_getElem? q1) (by rw [z]; exact h)
    exact cell_ext e (fun z => by show upd w.F p o a = none; rw [upd_ne hne]; exact z) (fun x z => updF h a x z) (g.cell n a c q1 q2)
/-- a new cell -/
def Hs.cel (w : Hs) (p : Addr) (o : HO) : Hs := ⟨w.F, w.al ++ [p], upd w.H p o⟩
theorem Ext.cel (g : Good K w S) {p : Addr} (o : HO) (h : w.H p = none) : Ext w (w.cel p o) where
  f := fun _ _ e => e
  al := ⟨[p], rfl, fun b hb => by rw [List.mem_singleton.mp hb]; exact h⟩
  new := fun a x e => .inl e
  kp := fun a x e _ => updF h a x e
  dm := fun a e => by
    show upd w.H p o a ≠ none
    by_cases q : a = p
    · subst q; rw [upd_same]; exact fun z => nomatch z
    · rw [upd_ne q]; exact e
/-- a new cell c at p in a world where new things stand beside it -/
theorem Good.cell' {w' : Hs} (g : Good K w S) {p : Addr} {c0 : Cell} (h : w.H p = none) (e : Ext w w') (hF : w'.F = w.F) (hal : w'.al = w.al ++ [p]) (hH : ∀ a x, w.H a = some x → w'.H a = some x) (hp : w'.H p ≠ none) (ok : CellOk K w' p c0) : Good K w' (S ++ [c0]) := by
  refine ⟨fun a x q => hH a x (g.sub a x (by rw [← hF]; exact q)), ?_, ?_, fun n a c q1 q2 => ?_, fun a q => ?_⟩
  · rw [hal, List.nodup_append]
    exact ⟨g.nd, by simp, fun a ha b hb => by rw [List.mem_singleton.mp hb]; exact fun z => g.notA h (z ▸ ha)⟩
  · rw [hal, List.length_append, List.length_append, g.len] <;> rfl
  · rw [hal] at q1
    by_cases hn : n < w.al.length
    · rw [List.getElem?_append_left hn] at q1
      rw [List.getElem?_append_left (by rw [← g.len]; exact hn)] at q2
      exact cell_ext e (fun z => by rw [hF]; exact z) (fun x z => hH a x z) (g.cell n a c q1 q2)
    · have hn2 : n = w.al.length := by
        have := (List.getElem?_eq_some_iff.mp q1).1
        rw [List.length_append] at this
        have h1 : [p].length = 1 := rfl
        omega
      subst hn2
      rw [List.getElem?_append_right (Nat.le_refl _), Nat.sub_self] at q1
      rw [List.getElem?_append_right (by rw [g.len]; exact Nat.le_refl _), g.len, Nat.sub_self] at q2
      have e1 : p = a := Option.some.inj q1
      have e2 : c0 = c := Option.some.inj q2
      subst e1; subst e2
      exact ok
  · rw [hal] at q
    rcases List.mem_append.mp q with z | z
    · exact e.dm a (g.dom a z)
    · rw [List.mem_singleton.mp z]
      exact hp
theorem upd_some {H : Hp} {p : Addr} {o : HO} : upd H p o p ≠ none := by
  rw [upd_same]; exact fun z => nomatch z
theorem Good.cel (g : Good K w S) {p : Addr} {xs : List V} {ds : List D} (h : w.H p = none) (r : Ra K w xs ds) : Good K (w.cel p (.lst xs)) (S ++ [.lst ds]) :=
  g.cell' h (Ext.cel g _ h) rfl rfl (fun a x q => updF h a x q) upd_some ⟨g.notF h, xs, upd_same, (Ext.cel g _ h).ra r⟩
/-- a new instance and its dict -/
def Hs.celI (w : Hs) (p dx C : Addr) : Hs := ⟨w.F, w.al ++ [p], upd (upd w.H dx (.own p)) p (.ins C dx [])⟩
theorem Ext.celI (g : Good K w S) {p dx C : Addr} (h : w.H p = none) (hd : w.H dx = none) : Ext w (w.celI p dx C) where
  f := fun _ _ e => e
  al := ⟨[p], rfl, fun b hb => by rw [List.mem_singleton.mp hb]; exact h⟩
  new := fun a x e => .inl e
  kp := fun a x e _ => by
    show upd (upd w.H dx (.own p)) p _ a = some x
    rw [upd_ne (ne_of_none e h), upd_ne (ne_of_none e hd)]; exact e
  dm := fun a e => by
    show upd (upd w.H dx (.own p)) p _ a ≠ none
    by_cases q : a = p
    · subst q; exact upd_some
    · rw [upd_ne q]
      by_cases q2 : a = dx
      · subst q2; exact upd_some
      · rw [upd_ne q2]; exact e
theorem Good.celI (g : Good K w S) {p dx C : Addr} (h : w.H p = none) (hd : w.H dx = none) : Good K (w.celI p dx C) (S ++ [.ins C []]) :=
  g.cell' h (Ext.celI g h hd) rfl rfl (fun a x e => by
    show upd (upd w.H dx (.own p)) p _ a = some x
    rw [upd_ne (ne_of_none e h), upd_ne (ne_of_none e hd)]; exact e) upd_some ⟨g.notF h, dx, [], upd_same, .nil⟩
/-- a cell is written -/
def Hs.wr (w : Hs) (p : Addr) (o : HO) : Hs := ⟨w.F, w.al, upd w.H p o⟩
theorem Ext.wr {p : Addr} (o : HO) (hp : p ∈ w.al) : Ext w (w.wr p o) where
  f := fun _ _ e => e
  al := ⟨[], by simp [Hs.wr], by simp⟩
  new := fun a x e => .inl e
  kp := fun a x e n => by
    show upd w.H p o a = some x
    rw [upd_ne (fun z => n (by rw [z]; exact hp))]; exact e
  dm := fun a e => by
    show upd w.H p o a ≠ none
    by_cases q : a = p
    · subst q; rw [upd_same]; exact fun z => nomatch z
    · rw [upd_ne q]; exact e
theorem CellOk.notF {a : Addr} {c : Cell} (h : CellOk K w a c) (hc : c ≠ .gone) : w.F a = none := by
  cases c with
  | gone => exact absurd rfl hc
  | lst _ => exact h.1
  | ins _ _ => exact h.1
  | dct _ => exact h.1
  | dck _ => exact h.1
  | lck _ _ _ => exact h.1
theorem Good.write (g : Good K w S) {h : Nat} {p : Addr} {c0 : Cell} {o : HO} (hp : w.al[h]? = some p) (hl : h < S.length) (hF : w.F p = none) (ok : CellOk K (w.wr p o) p c0) : Good K (w.wr p o) (S.set h c0) := by
  have hm : p ∈ w.al := List.mem_of_getElem? hp
  have e := Ext.wr o hm
  refine ⟨fun a x q => ?_, g.nd, by rw [List.length_set]; exact g.len, fun n a c q1 q2 => ?_, fun a q => e.dm a (g.dom a q)⟩
  · show upd w.H p o a = some x
    rw [upd_ne (ne_of_none q hF)]
    exact g.sub a x q
  · have q1 : w.al[n]? = some a := q1
    by_cases hn : h = n
    · subst hn
      rw [hp] at q1; cases q1
      rw [List.getElem?_set_self hl] at q2
      cases q2
      exact ok
    · rw [List.getElem?_set_ne hn] at q2
      have hne : a ≠ p := fun z => by
        subst z
        obtain ⟨l1, e1⟩ := List.getElem?_eq_some_iff.mp hp
        obtain ⟨l2, e2⟩ := List.getElem?_eq_some_iff.mp q1
        exact hn ((List.getElem_inj g.nd).mp (e1.trans e2.symm))
      exact cell_ext e (fun z => z) (fun x z => by show upd w.H p _ a = some x; rw [upd_ne hne]; exact z) (g.cell n a c q1 q2)
theorem Good.wr (g : Good K w S) {h : Nat} {p : Addr} {xs : List V} {es ds : List D} (hp : w.al[h]? = some p) (hc : S[h]? = some (.lst es)) (r : Ra K w xs ds) : Good K (w.wr p (.lst xs)) (S.set h (.lst ds)) :=
  have hF := (g.cell h p _ hp hc).1
  g.write hp (List.getElem?_eq_some_iff.mp hc).1 hF ⟨hF, xs, upd_same, r⟩
theorem Good.wrI (g : Good K w S) {h : Nat} {p C dx : Addr} {vs : List (Str × V)} {es fs : List (Str × D)} (hp : w.al[h]? = some p) (hc : S[h]? = some (.ins C es)) (r : RpF K w.F w.al vs fs) : Good K (w.wr p (.ins C dx vs)) (S.set h (.ins C fs)) :=
  have hF := (g.cell h p _ hp hc).1
  g.write hp (List.getElem?_eq_some_iff.mp hc).1 hF ⟨hF, dx, vs, upd_same, r⟩
/-- a cell is frozen -/
def Hs.fz (w : Hs) (p : Addr) (o : HO) : Hs := ⟨upd w.F p o, w.al, w.H⟩
theorem Ext.fz {p : Addr} {o : HO} (hp : p ∈ w.al) (hF : w.F p = none) : Ext w (w.fz p o) where
  f := updF hF
  al := ⟨[], by simp [Hs.fz], by simp⟩
  new := fun a x e => by
    by_cases q : a = p
    · subst q; exact .inr (.inr hp)
    · have e2 : upd w.F p o a = some x := e
      rw [upd_ne q] at e2
      exact .inl e2
  kp := fun a x e n => e
  dm := fun a e => e
theorem Good.fzC (g : Good K w S) {h : Nat} {p : Addr} {o : HO} {c0 : Cell} (hp : w.al[h]? = some p) (hc : S[h]? = some c0) (hng : c0 ≠ .gone) (ho : w.H p = some o) : Good K (w.fz p o) (S.set h .gone) := by
  have hm : p ∈ w.al := List.mem_of_getElem? hp
  have hF : w.F p = none := (g.cell h p _ hp hc).notF hng
  have e : Ext w (w.fz p o) := Ext.fz hm hF
  refine ⟨fun a x q => ?_, g.nd, by rw [List.length_set]; exact g.len, fun n a c q1 q2 => ?_, g.dom⟩
  · have q2 : upd w.F p o a = some x := q
    show w.H a = some x
    by_cases z : a = p
    · subst z; rw [upd_same] at q2; cases q2; exact ho
    · rw [upd_ne z] at q2; exact g.sub a x q2
  · have q1 : w.al[n]? = some a := q1
    by_cases hn : h = n
    · subst hn
      rw [List.getElem?_set_self (List.getElem?_eq_some_iff.mp hc).1] at q2
      cases q2
      exact True.intro
    · rw [List.getElem?_set_ne hn] at q2
      have hne : a ≠ p := fun z => by
        subst z
        obtain ⟨l1, e1⟩ := List.getElem?_eq_some_iff.mp hp
        obtain ⟨l2, e2⟩ := List.getElem?_eq_some_iff.mp q1
        exact hn ((List.getElem_inj g.nd).mp (e1.trans e2.symm))
      exact cell_ext e (fun z => by show upd w.F p o a = none; rw [upd_ne hne]; exact z) (fun x z => z) (g.cell n a c q1 q2)
theorem Good.fz (g : Good K w S) {h : Nat} {p : Addr} {o : HO} {es : List D} (hp : w.al[h]? = some p) (hc : S[h]? = some (.lst es)) (ho : w.H p = some o) : Good K (w.fz p o) (S.set h .gone) :=
  g.fzC hp hc (fun z => nomatch z) ho
end
end DL
namespace DL
open PySem PySem.Spec PyProof.Rows L2
structure Exn where
  cls : Addr
  fs : List (Str × D)
def RpX (K : PySem.W.Frag) (w : Hs) (cv : Value) (dx : Option Addr) (x : Exn) : Prop :=
  cv = .ref x.cls ∧ match dx with
    | none => x.fs = []
    | some a => ∃ vs, w.F a = some (.xd vs) ∧ RpF K w.F w.al vs x.fs
abbrev KD := Sto → D → Prop
abbrev KX := Sto → Exn → Prop
abbrev TD := Gam → Sto → KD → KX → Prop
abbrev TB := Gam → Sto → (Sto → Bool → Prop) → KX → Prop
abbrev TL := Gam → Sto → (Sto → List D → Prop) → KX → Prop
section
variable (K : PySem.W.Frag) (W : WX)
def OkD (w : Hs) (Φ : KD) (Q : VK) : Prop := ∀ v d w' S', Ext w w' → Good K w' S' → Rv K w' v d → Φ S' d → Q v w'.H
def OkB (w : Hs) (Φ : Sto → Bool → Prop) (Q : Bool → Hp → Prop) : Prop := ∀ b w' S', Ext w w' → Good K w' S' → Φ S' b → Q b w'.H
def OkL (w : Hs) (Φ : Sto → List D → Prop) (Q : List V → Hp → Prop) : Prop := ∀ vs ds w' S', Ext w w' → Good K w' S' → Ra K w' vs ds → Φ S' ds → Q vs w'.H
def OkX (w : Hs) (Ψ : KX) (σ : L2.St) : Prop := ∀ cv dx x w' S', Ext w w' → Good K w' S' → RpX K w' cv dx x → Ψ S' x → W cv dx σ w'.H
def SemE (t : TE) (T : TD) : Prop := ∀ Γ S Φ Ψ σ w, Good K w S → Slots K w σ Γ → T Γ S Φ Ψ → OkX K W w Ψ σ → ∀ Q : VK, OkD K w Φ Q → t σ w.H Q
def SemT (t : TT) (T : TB) : Prop := ∀ Γ S Φ Ψ σ w, Good K w S → Slots K w σ Γ → T Γ S Φ Ψ → OkX K W w Ψ σ → ∀ Q : Bool → Hp → Prop, OkB K w Φ Q → t σ w.H Q
def SemA (t : TA) (T : TL) : Prop := ∀ Γ S Φ Ψ σ w, Good K w S → Slots K w σ Γ → T Γ S Φ Ψ → OkX K W w Ψ σ → ∀ Q : List V → Hp → Prop, OkL K w Φ Q → t σ w.H Q
end
section
variable {K : PySem.W.Frag} {W : WX} {w w' : Hs}
theorem OkD.ext {Φ : KD} {Q : VK} (h : OkD K w Φ Q) (e : Ext w w') : OkD K w' Φ Q := fun v d w2 S' e2 => h v d w2 S' (e.trans e2)
theorem OkB.ext {Φ : Sto → Bool → Prop} {Q : Bool → Hp → Prop} (h : OkB K w Φ Q) (e : Ext w w') : OkB K w' Φ Q := fun v w2 S' e2 => h v w2 S' (e.trans e2)
theorem OkL.ext {Φ : Sto → List D → Prop} {Q : List V → Hp → Prop} (h : OkL K w Φ Q) (e : Ext w w') : OkL K w' Φ Q := fun v d w2 S' e2 => h v d w2 S' (e.trans e2)
theorem OkX.ext {Ψ : KX} {σ : L2.St} (h : OkX K W w Ψ σ) (e : Ext w w') : OkX K W w' Ψ σ := fun a b c w2 S' e2 => h a b c w2 S' (e.trans e2)
end
/-- an expression, a test, arguments: what is read (t) and what is asked of the data (T) -/
structure JE (X : Cx) (W : WX) (e : Expr) (t : TE) (T : TD) : Prop where
  pe : PE X e t
  sem : SemE X.K W t T
structure JT (X : Cx) (W : WX) (e : Expr) (t : TT) (T : TB) : Prop where
  pt : PT X e t
  sem : SemT X.K W t T
structure JW (X : Cx) (W : WX) (e : Expr) (t : TT) (T : TB) : Prop where
  pw : PW X e t
  sem : SemT X.K W t T
structure JA (X : Cx) (W : WX) (es : List Expr) (t : TA) (T : TL) : Prop where
  pa : PA X es t
  sem : SemA X.K W t T
section
variable {X : Cx} {W : WX} {e a b c : Expr} {es : List Expr} {pos : Pos} {ta tb tc te : TE} {Ta Tb Tc Te : TD}
def dVar (i : Nat) : TD := fun Γ S Φ _ => ∃ d, Γ[i]? = some (some d) ∧ Φ S d
def dC (d : D) : TD := fun _ S Φ _ => Φ S d
theorem sem_var {K : PySem.W.Frag} {i : Nat} : SemE K W (tVar i) (dVar i) := fun Γ S Φ Ψ σ w g sl ⟨d, h1, h2⟩ _ Q q => by
  obtain ⟨v, h3, r⟩ := sl.2 i d h1
  exact ⟨v, h3, q v d w S (Ext.refl w) g r h2⟩
theorem sem_c {K : PySem.W.Frag} {v : V} {d : D} (r : ∀ w : Hs, Rv K w v d) : SemE K W (tC v) (dC d) := fun Γ S Φ Ψ σ w g sl h _ Q q => q v d w S (Ext.refl w) g (r w) h
theorem je_var (i : Nat) {x : Str} (hN : X.N[i]? = some x := by rfl) (hv : Vis X.env.scope x := by first | exact Or.inl rfl | exact Or.inr (Or.inl rfl) | exact Or.inr (Or.inr rfl)) (hd : (x == ("__debug__" : Str)) = false := by decide)
    (hcd : (x == ("__classdict__" : Str)) = false := by decide) : JE X W (.Name x pos) (tVar i) (dVar i) := ⟨pe_var hN hv hd hcd, sem_var⟩
theorem je_int {i j} : JE X W (.Constant (.int i) j pos) (tC (.int i)) (dC (.int i)) := ⟨pe_int, sem_c fun _ => .int i⟩
theorem je_bl {b j} : JE X W (.Constant (.bool b) j pos) (tC (.bl b)) (dC (.bl b)) := ⟨pe_bl, sem_c fun _ => .bl b⟩
theorem je_non {j} : JE X W (.Constant .none j pos) (tC .non) (dC .non) := ⟨pe_non, sem_c fun _ => .non⟩
theorem je_str {x j} : JE X W (.Constant (.str x) j pos) (tC (.str x)) (dC (.str x)) := ⟨pe_str, sem_c fun _ => .str x⟩
/-- a constant of the module -/
theorem je_glob {x : Str} {v : V} {u : Value} {d : D} (r : ∀ w : Hs, Rv X.K w v d) (hg : Gl X x) (hm : X.mg x = some u) (q : RelV v u) (hd : (x == ("__debug__" : Str)) = false := by decide) : JE X W (.Name x pos) (tC v) (dC d) := ⟨pe_glob hg hm q hd, sem_c r⟩
theorem je_gint {x : Str} {i : Int} (hg : Gl X x) (hm : ∃ t, X.mg x = some (.int i t)) (hd : (x == ("__debug__" : Str)) = false := by decide) : JE X W (.Name x pos) (tC (.int i)) (dC (.int i)) := by
  obtain ⟨t, hm⟩ := hm
  exact je_glob (fun _ => .int i) hg hm ⟨t, rfl⟩ hd
theorem je_gstr {x z : Str} (hg : Gl X x) (hm : ∃ t, X.mg x = some (.str z t)) (hd : (x == ("__debug__" : Str)) = false := by decide) : JE X W (.Name x pos) (tC (.str z)) (dC (.str z)) := by
  obtain ⟨t, hm⟩ := hm
  exact je_glob (fun _ => .str z) hg hm ⟨t, rfl⟩ hd
theorem je_gref {x : Str} {p : Addr} (hg : Gl X x) (hm : X.mg x = some (.ref p)) (hd : (x == ("__debug__" : Str)) = false := by decide) : JE X W (.Name x pos) (tC (.ref p)) (dC (.obj p)) := je_glob (fun _ => .obj p) hg hm rfl hd
/-- a built-in type as a value -/
theorem je_ty {x : Str} {n : String} (hg : Gl X x) (hm : X.mg x = none) (hv : bootBuiltins x = some (.type n)) (hn : x ≠ "__name__" := by decide) (hd : (x == ("__debug__" : Str)) = false := by decide) : JE X W (.Name x pos) (tC (.ty n)) (dC (.ty n)) :=
  ⟨pe_bltn hg hm hv rfl hn hd, sem_c fun _ => .ty n⟩
def OpD (K : PySem.W.Frag) (r : R2) (f : D → D → Sto → KD → Prop) : Prop :=
  ∀ w S x y u v Φ Q, Good K w S → Rv K w x u → Rv K w y v → f u v S Φ → OkD K w Φ Q → r x y w.H Q
def dOp (f : D → D → Sto → KD → Prop) (Ta Tb : TD) : TD := fun Γ S Φ Ψ => Ta Γ S (fun S1 x => Tb Γ S1 (fun S2 y => f x y S2 Φ) Ψ) Ψ
theorem sem_op {K : PySem.W.Frag} {r : R2} {f : D → D → Sto → KD → Prop} (hd : OpD K r f) (ha : SemE K W ta Ta) (hb : SemE K W tb Tb) : SemE K W (tOp r ta tb) (dOp f Ta Tb) :=
  fun Γ S Φ Ψ σ w g sl h hx Q q => ha Γ S _ Ψ σ w g sl h hx _ fun v d w1 S1 e1 g1 r1 h1 =>
    hb Γ S1 _ Ψ σ w1 g1 (sl.ext e1) h1 (hx.ext e1) _ fun v2 d2 w2 S2 e2 g2 r2 h2 => hd w2 S2 v v2 d d2 Φ Q g2 (e2.rp r1) r2 h2 (q.ext (e1.trans e2))
theorem je_op {op : Operator} {r : R2} {f : D → D → Sto → KD → Prop} (ho : OpR X (binaryOp op) r) (hd : OpD X.K r f) (ha : JE X W a ta Ta) (hb : JE X W b tb Tb) : JE X W (.BinOp a op b pos) (tOp r ta tb) (dOp f Ta Tb) :=
  ⟨pe_op ho ha.pe hb.pe, sem_op hd ha.sem hb.sem⟩
theorem je_cmp {op : CmpOp} {r : R2} {f : D → D → Sto → KD → Prop} (ho : OpR X (compareOp op) r) (hd : OpD X.K r f) (ha : JE X W a ta Ta) (hb : JE X W b tb Tb) (hm : behindInMarks op b = false) : JE X W (.Compare a [op] [b] pos) (tOp r ta tb) (dOp f Ta Tb) :=
  ⟨pe_cmpR ho ha.pe hb.pe hm, sem_op hd ha.sem hb.sem⟩
/-- a value that is a bool, as a test -/
def bOf (T : TD) : TB := fun Γ S Φ Ψ => T Γ S (fun S1 d => ∃ k, d = .bl k ∧ Φ S1 k) Ψ
theorem rv_bl {K : PySem.W.Frag} {w : Hs} {v : V} {k : Bool} (r : Rv K w v (.bl k)) : v = .bl k := by cases r; rfl
theorem rv_int {K : PySem.W.Frag} {w : Hs} {v : V} {k : Int} (r : Rv K w v (.int k)) : v = .int k := by cases r; rfl
theorem rv_str {K : PySem.W.Frag} {w : Hs} {v : V} {k : Str} (r : Rv K w v (.str k)) : v = .str k := by cases r; rfl
theorem rv_non {K : PySem.W.Frag} {w : Hs} {v : V} (r : Rv K w v .non) : v = .non := by cases r; rfl
theorem sem_bl {K : PySem.W.Frag} (h : SemE K W te Te) : SemT K W (fun σ H Q => te σ H fun x H' => ∃ k, x = .bl k ∧ Q k H') (bOf Te) := fun Γ S Φ Ψ σ w g sl h2 hx Q q =>
  h Γ S _ Ψ σ w g sl h2 hx _ fun v d w1 S1 e1 g1 r1 ⟨k, e, h3⟩ => by
    subst e
    exact ⟨k, rv_bl r1, q k w1 S1 e1 g1 h3⟩
theorem jt_cmp {op : CmpOp} {r : R2} {f : D → D → Sto → KD → Prop} (ho : OpR X (compareOp op) r) (hd : OpD X.K r f) (ha : JE X W a ta Ta) (hb : JE X W b tb Tb) (hm : behindInMarks op b = false) : JT X W (.Compare a [op] [b] pos) (tTest (tOp r ta tb)) (bOf (dOp f Ta Tb)) :=
  ⟨pt_cmpR ho ha.pe hb.pe hm, sem_bl (sem_op hd ha.sem hb.sem)⟩
def dChain (f g : D → D → Sto → KD → Prop) (Ta Tb Tc : TD) : TD := fun Γ S Φ Ψ => Ta Γ S (fun S1 x => Tb Γ S1 (fun S2 y => f x y S2 fun S3 z => ∃ k, z = .bl k ∧ (if k = true then Tc Γ S3 (fun S4 u => g y u S4 Φ) Ψ else Φ S3 (.bl false))) Ψ) Ψ
theorem sem_chain {K : PySem.W.Frag} {r r' : R2} {f g : D → D → Sto → KD → Prop} (hd : OpD K r f) (hd' : OpD K r' g) (ha : SemE K W ta Ta) (hb : SemE K W tb Tb) (hc : SemE K W tc Tc) : SemE K W (tChain r r' ta tb tc) (dChain f g Ta Tb Tc) :=
  fun Γ S Φ Ψ σ w g0 sl h hx Q q => ha Γ S _ Ψ σ w g0 sl h hx _ fun v d w1 S1 e1 g1 r1 h1 =>
    hb Γ S1 _ Ψ σ w1 g1 (sl.ext e1) h1 (hx.ext e1) _ fun v2 d2 w2 S2 e2 g2 r2 h2 => hd w2 S2 v v2 d d2 _ _ g2 (e2.rp r1) r2 h2 fun z dz w3 S3 e3 g3 r3 ⟨k, ek, h3⟩ => by
      subst ek
      refine ⟨k, rv_bl r3, ?_⟩
      have e13 := (e1.trans e2).trans e3
      cases k with
      | true => exact hc Γ S3 _ Ψ σ w3 g3 (sl.ext e13) h3 (hx.ext e13) _ fun v4 d4 w4 S4 e4 g4 r4 h4 => hd' w4 S4 v2 v4 d2 d4 Φ Q g4 ((e3.trans e4).rp r2) r4 h4 (q.ext (e13.trans e4))
      | false => exact q (.bl false) (.bl false) w3 S3 e13 g3 (.bl false) h3
theorem je_chain {op op' : CmpOp} {r r' : R2} {f g : D → D → Sto → KD → Prop} (ho : OpR X (compareOp op) r) (ho' : OpR X (compareOp op') r') (hd : OpD X.K r f) (hd' : OpD X.K r' g) (ha : JE X W a ta Ta) (hb : JE X W b tb Tb) (hc : JE X W c tc Tc)
    (hm : lastMarks [op, op'] [b, c] = false := by with_unfolding_all rfl) : JE X W (.Compare a [op, op'] [b, c] pos) (tChain r r' ta tb tc) (dChain f g Ta Tb Tc) := ⟨pe_chain ho ho' ha.pe hb.pe hc.pe hm, sem_chain hd hd' ha.sem hb.sem hc.sem⟩
theorem jt_chain {op op' : CmpOp} {r r' : R2} {f g : D → D → Sto → KD → Prop} (ho : OpR X (compareOp op) r) (ho' : OpR X (compareOp op') r') (hd : OpD X.K r f) (hd' : OpD X.K r' g) (ha : JE X W a ta Ta) (hb : JE X W b tb Tb) (hc : JE X W c tc Tc)
    (hm : lastMarks [op, op'] [b, c] = false := by with_unfolding_all rfl) : JT X W (.Compare a [op, op'] [b, c] pos) (tTest (tChain r r' ta tb tc)) (bOf (dChain f g Ta Tb Tc)) := ⟨pt_chain ho ho' ha.pe hb.pe hc.pe hm, sem_bl (sem_chain hd hd' ha.sem hb.sem hc.sem)⟩
/-- a value as a test -/
theorem jt_val (h : JE X W e te Te) (he : ∀ whole, isTrue e X.env whole = (do let v ← whole; standAt e.pos; holding [v] (truthy v)) := by intro _; rfl) : JT X W e (tB te) (bOf Te) := ⟨pt_val h.pe he, sem_bl h.sem⟩
variable {t u : TT} {T U : TB} {rest : List Expr}
def bAnd (T U : TB) : TB := fun Γ S Φ Ψ => T Γ S (fun S1 k => if k = true then U Γ S1 Φ Ψ else Φ S1 false) Ψ
def bOr (T U : TB) : TB := fun Γ S Φ Ψ => T Γ S (fun S1 k => if k = true then Φ S1 true else U Γ S1 Φ Ψ) Ψ
def bNot (T : TB) : TB := fun Γ S Φ Ψ => T Γ S (fun S1 k => Φ S1 (!k)) Ψ
theorem sem_bAnd {K : PySem.W.Frag} (h1 : SemT K W t T) (h2 : SemT K W u U) : SemT K W (tAnd t u) (bAnd T U) := fun Γ S Φ Ψ σ w g sl h hx Q q =>
  h1 Γ S _ Ψ σ w g sl h hx _ fun k w1 S1 e1 g1 h3 => by
    cases k with
    | true => exact h2 Γ S1 Φ Ψ σ w1 g1 (sl.ext e1) h3 (hx.ext e1) Q (q.ext e1)
    | false => exact q false w1 S1 e1 g1 h3
theorem sem_bOr {K : PySem.W.Frag} (h1 : SemT K W t T) (h2 : SemT K W u U) : SemT K W (tOr t u) (bOr T U) := fun Γ S Φ Ψ σ w g sl h hx Q q =>
  h1 Γ S _ Ψ σ w g sl h hx _ fun k w1 S1 e1 g1 h3 => by
    cases k with
    | true => exact q true w1 S1 e1 g1 h3
    | false => exact h2 Γ S1 Φ Ψ σ w1 g1 (sl.ext e1) h3 (hx.ext e1) Q (q.ext e1)
theorem jw_and1 (h : JT X W a t T) : JW X W (.BoolOp .And [a] pos) t T := ⟨pw_and1 h.pt, h.sem⟩
theorem jw_or1 (h : JT X W a t T) : JW X W (.BoolOp .Or [a] pos) t T := ⟨pw_or1 h.pt, h.sem⟩
theorem jw_and (h : JT X W a t T) (h2 : JW X W (.BoolOp .And (b :: rest) pos) u U) : JW X W (.BoolOp .And (a :: b :: rest) pos) (tAnd t u) (bAnd T U) := ⟨pw_and h.pt h2.pw, sem_bAnd h.sem h2.sem⟩
theorem jw_or (h : JT X W a t T) (h2 : JW X W (.BoolOp .Or (b :: rest) pos) u U) : JW X W (.BoolOp .Or (a :: b :: rest) pos) (tOr t u) (bOr T U) := ⟨pw_or h.pt h2.pw, sem_bOr h.sem h2.sem⟩
theorem JW.jt (h : JW X W e t T) : JT X W e t T := ⟨h.pw.pt, h.sem⟩
theorem jt_not (h : JT X W a t T) : JT X W (.UnaryOp .Not a pos) (tNot t) (bNot T) := ⟨pt_not h.pt, fun Γ S Φ Ψ σ w g sl h2 hx Q q => h.sem Γ S _ Ψ σ w g sl h2 hx _ fun k w1 S1 e1 g1 h3 => q (!k) w1 S1 e1 g1 h3⟩
/-- as values -/
def dAnd (Ta Tb : TD) : TD := fun Γ S Φ Ψ => Ta Γ S (fun S1 x => ∃ k, x = .bl k ∧ if k = true then Tb Γ S1 Φ Ψ else Φ S1 (.bl false)) Ψ
def dOr (Ta Tb : TD) : TD := fun Γ S Φ Ψ => Ta Γ S (fun S1 x => ∃ k, x = .bl k ∧ if k = true then Φ S1 (.bl true) else Tb Γ S1 Φ Ψ) Ψ
def dNot (Ta : TD) : TD := fun Γ S Φ Ψ => Ta Γ S (fun S1 x => ∃ k, x = .bl k ∧ Φ S1 (.bl (!k))) Ψ
theorem je_one {op} (h : JE X W a ta Ta) : JE X W (.BoolOp op [a] pos) ta Ta := ⟨pe_one h.pe, h.sem⟩
theorem je_and (ha : JE X W a ta Ta) (hb : JE X W (.BoolOp .And (b :: rest) pos) tb Tb) : JE X W (.BoolOp .And (a :: b :: rest) pos) (tAndV ta tb) (dAnd Ta Tb) := ⟨pe_and ha.pe hb.pe, fun Γ S Φ Ψ σ w g sl h hx Q q =>
  ha.sem Γ S _ Ψ σ w g sl h hx _ fun v d w1 S1 e1 g1 r1 ⟨k, e, h1⟩ => by
    subst e
    refine ⟨k, rv_bl r1, ?_⟩
    cases k with
    | true => exact hb.sem Γ S1 Φ Ψ σ w1 g1 (sl.ext e1) h1 (hx.ext e1) Q (q.ext e1)
    | false => exact q (.bl false) (.bl false) w1 S1 e1 g1 (.bl false) h1⟩
theorem je_not (ha : JE X W a ta Ta) : JE X W (.UnaryOp .Not a pos) (tNotV ta) (dNot Ta) := ⟨pe_not ha.pe, fun Γ S Φ Ψ σ w g sl h hx Q q =>
  ha.sem Γ S _ Ψ σ w g sl h hx _ fun v d w1 S1 e1 g1 r1 ⟨k, e, h1⟩ => by
    subst e
    exact ⟨k, rv_bl r1, q (.bl (!k)) (.bl (!k)) w1 S1 e1 g1 (.bl (!k)) h1⟩⟩
def dIf (T : TB) (Ta Tb : TD) : TD := fun Γ S Φ Ψ => T Γ S (fun S1 k => if k = true then Ta Γ S1 Φ Ψ else Tb Γ S1 Φ Ψ) Ψ
theorem je_if (hc : JT X W c t T) (ha : JE X W a ta Ta) (hb : JE X W b tb Tb) : JE X W (.IfExp c a b pos) (tIf t ta tb) (dIf T Ta Tb) := ⟨pe_ifExp hc.pt ha.pe hb.pe, fun Γ S Φ Ψ σ w g sl h hx Q q =>
  hc.sem Γ S _ Ψ σ w g sl h hx _ fun k w1 S1 e1 g1 h3 => by
    cases k with
    | true => exact ha.sem Γ S1 Φ Ψ σ w1 g1 (sl.ext e1) h3 (hx.ext e1) Q (q.ext e1)
    | false => exact hb.sem Γ S1 Φ Ψ σ w1 g1 (sl.ext e1) h3 (hx.ext e1) Q (q.ext e1)⟩
variable {tl : TA} {Tl : TL}
def lNil : TL := fun _ S Φ _ => Φ S []
def lCons (T : TD) (U : TL) : TL := fun Γ S Φ Ψ => T Γ S (fun S1 x => U Γ S1 (fun S2 xs => Φ S2 (x :: xs)) Ψ) Ψ
theorem ja_nil : JA X W [] tNil lNil := ⟨pa_nil, fun Γ S Φ Ψ σ w g sl h hx Q q => q [] [] w S (Ext.refl w) g .nil h⟩
theorem ja_cons (ha : JE X W e te Te) (hr : JA X W es tl Tl) (hs : starEach (e :: es) X.env = (false, eval e X.env) :: starEach es X.env := by rfl) : JA X W (e :: es) (tCons te tl) (lCons Te Tl) := ⟨pa_cons ha.pe hr.pa hs, fun Γ S Φ Ψ σ w g sl h hx Q q =>
  ha.sem Γ S _ Ψ σ w g sl h hx _ fun v d w1 S1 e1 g1 r1 h1 => hr.sem Γ S1 _ Ψ σ w1 g1 (sl.ext e1) h1 (hx.ext e1) _ fun vs ds w2 S2 e2 g2 r2 h2 => q _ _ w2 S2 (e1.trans e2) g2 (.cons (e2.rp r1) r2) h2⟩
/-- a new frozen list, a new cell, a new tuple -/
def dLst (T : TL) : TD := fun Γ S Φ Ψ => T Γ S (fun S1 ds => ds.length ≤ sizeLine ∧ Φ S1 (.lst ds)) Ψ
def dLstO (T : TL) : TD := fun Γ S Φ Ψ => T Γ S (fun S1 ds => ds.length ≤ sizeLine ∧ Φ (S1 ++ [.lst ds]) (.own S1.length)) Ψ
def dTup (T : TL) : TD := fun Γ S Φ Ψ => T Γ S (fun S1 ds => ds.length ≤ sizeLine ∧ Φ S1 (.tup ds)) Ψ
theorem new_lst {K : PySem.W.Frag} {w : Hs} {S : Sto} (g : Good K w S) {Φ : KD} {Q : VK} (q : OkD K w Φ Q) {vs : List V} {ds : List D} (r : Ra K w vs ds) (h : Φ S (.lst ds)) (p : Addr) (hp : w.H p = none) : Q (.ref p) (upd w.H p (.lst vs)) :=
  q (.ref p) (.lst ds) (w.frz p (.lst vs)) S (Ext.frz g _ hp) (g.frz _ hp) (.lst upd_same ((Ext.frz g _ hp).ra r)) h
theorem new_tup {K : PySem.W.Frag} {w : Hs} {S : Sto} (g : Good K w S) {Φ : KD} {Q : VK} (q : OkD K w Φ Q) {vs : List V} {ds : List D} (r : Ra K w vs ds) (h : Φ S (.tup ds)) (p : Addr) (hp : w.H p = none) : Q (.ref p) (upd w.H p (.tup vs)) :=
  q (.ref p) (.tup ds) (w.frz p (.tup vs)) S (Ext.frz g _ hp) (g.frz _ hp) (.tup (.inl (.inl upd_same)) ((Ext.frz g _ hp).ra r)) h
theorem new_own {K : PySem.W.Frag} {w : Hs} {S : Sto} (g : Good K w S) {Φ : KD} {Q : VK} (q : OkD K w Φ Q) {vs : List V} {ds : List D} (r : Ra K w vs ds) (h : Φ (S ++ [.lst ds]) (.own S.length)) (p : Addr) (hp : w.H p = none) : Q (.ref p) (upd w.H p (.lst vs)) :=
  q (.ref p) (.own S.length) (w.cel p (.lst vs)) (S ++ [.lst ds]) (Ext.cel g _ hp) (g.cel hp r) (.own (by
    show (w.al ++ [p])[S.length]? = some p
    rw [← g.len, List.getElem?_append_right (Nat.le_refl _), Nat.sub_self] <;> rfl)) h
theorem je_lst (h : JA X W es tl Tl) : JE X W (.List es pos) (tLst tl) (dLst Tl) := ⟨pe_lst h.pa, fun Γ S Φ Ψ σ w g sl hT hx Q q =>
  h.sem Γ S _ Ψ σ w g sl hT hx _ fun vs ds w1 S1 e1 g1 r1 ⟨z, h1⟩ => ⟨by rw [r1.length]; exact z, new_lst g1 (q.ext e1) r1 h1⟩⟩
theorem je_lstO (h : JA X W es tl Tl) : JE X W (.List es pos) (tLst tl) (dLstO Tl) := ⟨pe_lst h.pa, fun Γ S Φ Ψ σ w g sl hT hx Q q =>
  h.sem Γ S _ Ψ σ w g sl hT hx _ fun vs ds w1 S1 e1 g1 r1 ⟨z, h1⟩ => ⟨by rw [r1.length]; exact z, new_own g1 (q.ext e1) r1 h1⟩⟩
theorem je_tup {x1} (h : JA X W es tl Tl) : JE X W (.Tuple es x1 pos) (tTup tl) (dTup Tl) := ⟨pe_tup h.pa, fun Γ S Φ Ψ σ w g sl hT hx Q q =>
  h.sem Γ S _ Ψ σ w g sl hT hx _ fun vs ds w1 S1 e1 g1 r1 ⟨z, h1⟩ => ⟨by rw [r1.length]; exact z, new_tup g1 (q.ext e1) r1 h1⟩⟩
def CallD (K : PySem.W.Frag) (r : List V → Hp → VK → Prop) (f : List D → Sto → KD → Prop) : Prop :=
  ∀ w S vs ds Φ Q, Good K w S → Ra K w vs ds → f ds S Φ → OkD K w Φ Q → r vs w.H Q
def dCB (f : List D → Sto → KD → Prop) (T : TL) : TD := fun Γ S Φ Ψ => T Γ S (fun S1 ds => f ds S1 Φ) Ψ
theorem sem_cb {K : PySem.W.Frag} {r : List V → Hp → VK → Prop} {f : List D → Sto → KD → Prop} (hd : CallD K r f) (h : SemA K W tl Tl) : SemE K W (tCB r tl) (dCB f Tl) := fun Γ S Φ Ψ σ w g sl hT hx Q q =>
  h Γ S _ Ψ σ w g sl hT hx _ fun vs ds w1 S1 e1 g1 r1 h1 => hd w1 S1 vs ds Φ Q g1 r1 h1 (q.ext e1)
theorem je_callB {id : String} {x : Str} {p : Pos} {r : List V → Hp → VK → Prop} {f : List D → Sto → KD → Prop} (hc : CallR X (.builtin id) r) (hd : CallD X.K r f) (hg : Gl X x) (hm : X.mg x = none) (hv : bootBuiltins x = some (.builtin id)) (ha : JA X W (e :: es) tl Tl)
    (hn : x ≠ "__name__" := by decide) (hdb : (x == ("__debug__" : Str)) = false := by decide)
    (he : starEach (e :: es) X.env = (false, eval e X.env) :: starEach es X.env := by rfl) (hpl : (backTo pos (starEach es X.env)).any (·.1) = false := by rfl) : JE X W (.Call (.Name x p) (e :: es) [] pos) (tCB r tl) (dCB f Tl) :=
  ⟨pe_callB hc hg hm hv ha.pa hn hdb he hpl, sem_cb hd ha.sem⟩
theorem je_callTy {n : String} {x : Str} {p : Pos} {r : List V → Hp → VK → Prop} {f : List D → Sto → KD → Prop} (hc : CallR X (.type n) r) (hd : CallD X.K r f) (hg : Gl X x) (hm : X.mg x = none) (hv : bootBuiltins x = some (.type n)) (ha : JA X W (e :: es) tl Tl)
    (hn : x ≠ "__name__" := by decide) (hdb : (x == ("__debug__" : Str)) = false := by decide)
    (he : starEach (e :: es) X.env = (false, eval e X.env) :: starEach es X.env := by rfl) (hpl : (backTo pos (starEach es X.env)).any (·.1) = false := by rfl) : JE X W (.Call (.Name x p) (e :: es) [] pos) (tCB r tl) (dCB f Tl) :=
  ⟨pe_callTy hc hg hm hv ha.pa hn hdb he hpl, sem_cb hd ha.sem⟩
/-- what a def promises of data -/
abbrev DSpec := List D → Sto → KD → KX → Prop
def spOf (K : PySem.W.Frag) (sp : DSpec) : Sp := fun vs H Q E => ∃ w S ds Φ Ψ, w.H = H ∧ Good K w S ∧ Ra K w vs ds ∧ sp ds S Φ Ψ ∧ OkD K w Φ Q ∧
  ∀ cv dx x w' S', Ext w w' → Good K w' S' → RpX K w' cv dx x → Ψ S' x → E cv dx w'.H
def dCall (sp : DSpec) (T : TL) : TD := fun Γ S Φ Ψ => T Γ S (fun S1 ds => sp ds S1 Φ Ψ) Ψ
theorem sem_call {K : PySem.W.Frag} {sp : DSpec} (h : SemA K W tl Tl) : SemE K W (tCallS (spOf K sp) (WE W) tl) (dCall sp Tl) := fun Γ S Φ Ψ σ w g sl hT hx Q q =>
  h Γ S _ Ψ σ w g sl hT hx _ fun vs ds w1 S1 e1 g1 r1 h1 => ⟨w1, S1, ds, Φ, Ψ, rfl, g1, r1, h1, q.ext e1, fun cv dx x w' S' e g r hΨ => hx.ext e1 cv dx x w' S' e g r hΨ⟩
theorem je_ix {r : R2} {f : D → D → Sto → KD → Prop} (hr : IxR X r) (hd : OpD X.K r f) (ha : JE X W a ta Ta) (hb : JE X W b tb Tb) (hs : PlainIx b := by exact fun _ _ => rfl) : JE X W (.Subscript a b pos) (tOp r ta tb) (dOp f Ta Tb) := ⟨pe_ix hr ha.pe hb.pe hs, sem_op hd ha.sem hb.sem⟩
structure JO (X : Cx) (W : WX) (e : Option Expr) (t : TO) (T : Gam → Sto → (Sto → Option Int → Prop) → KX → Prop) : Prop where
  po : PO X e t
  sem : ∀ Γ S Φ Ψ σ w, Good X.K w S → Slots X.K w σ Γ → T Γ S Φ Ψ → OkX X.K W w Ψ σ → ∀ Q : Option Int → Hp → Prop, (∀ o w' S', Ext w w' → Good X.K w' S' → Φ S' o → Q o w'.H) → t σ w.H Q
abbrev TOd := Gam → Sto → (Sto → Option Int → Prop) → KX → Prop
def oNone : TOd := fun _ S Φ _ => Φ S none
def oSome (T : TD) : TOd := fun Γ S Φ Ψ => T Γ S (fun S1 d => ∃ i, d = .int i ∧ Φ S1 (some i)) Ψ
theorem jo_none : JO X W none tNoPart oNone := ⟨po_none, fun Γ S Φ Ψ σ w g sl h hx Q q => q none w S (Ext.refl w) g h⟩
theorem jo_some (h : JE X W e te Te) : JO X W (some e) (tPart te) (oSome Te) := ⟨po_some h.pe, fun Γ S Φ Ψ σ w g sl hT hx Q q =>
  h.sem Γ S _ Ψ σ w g sl hT hx _ fun v d w1 S1 e1 g1 r1 ⟨i, ei, h1⟩ => by
    subst ei
    exact ⟨i, rv_int r1, q _ w1 S1 e1 g1 h1⟩⟩
def SlD (K : PySem.W.Frag) (r : V → Option Int → Option Int → Hp → VK → Prop) (f : D → Option Int → Option Int → Sto → KD → Prop) : Prop :=
  ∀ w S v d lo hi Φ Q, Good K w S → Rv K w v d → f d lo hi S Φ → OkD K w Φ Q → r v lo hi w.H Q
def dSl (f : D → Option Int → Option Int → Sto → KD → Prop) (T : TD) (Tl Th : TOd) : TD := fun Γ S Φ Ψ => T Γ S (fun S1 d => Tl Γ S1 (fun S2 lo => Th Γ S2 (fun S3 hi => f d lo hi S3 Φ) Ψ) Ψ) Ψ
theorem je_slice {r : V → Option Int → Option Int → Hp → VK → Prop} {f : D → Option Int → Option Int → Sto → KD → Prop} {lo hi : Option Expr} {p2 : Pos} {tlo thi : TO} {Tlo Thi : TOd} (hr : SlR X r) (hd : SlD X.K r f) (he : JE X W e te Te) (hl : JO X W lo tlo Tlo) (hh : JO X W hi thi Thi) :
    JE X W (.Subscript e (.Slice lo hi none p2) pos) (tSl r te tlo thi) (dSl f Te Tlo Thi) := ⟨pe_slice hr he.pe hl.po hh.po, fun Γ S Φ Ψ σ w g sl hT hx Q q =>
  he.sem Γ S _ Ψ σ w g sl hT hx _ fun v d w1 S1 e1 g1 r1 h1 => hl.sem Γ S1 _ Ψ σ w1 g1 (sl.ext e1) h1 (hx.ext e1) _ fun lo w2 S2 e2 g2 h2 =>
    hh.sem Γ S2 _ Ψ σ w2 g2 (sl.ext (e1.trans e2)) h2 (hx.ext (e1.trans e2)) _ fun hi w3 S3 e3 g3 h3 => hd w3 S3 v d lo hi Φ Q g3 ((e2.trans e3).rp r1) h3 (q.ext ((e1.trans e2).trans e3))⟩
end
end DL
namespace DL
open PySem PySem.Spec PyProof.Rows L2
structure EdD where
  nx : Gam → Sto → Prop
  rt : Sto → D → Prop
  bk : Gam → Sto → Prop := fun _ _ => False
  ct : Gam → Sto → Prop := fun _ _ => False
  er : Sto → Exn → Prop
abbrev TSd := EdD → Gam → Sto → Prop
section
variable (K : PySem.W.Frag) (W : WX)
def OkN (w : Hs) (P : Gam → Sto → Prop) (Q : L2.St → Hp → Prop) : Prop := ∀ σ' Γ' w' S', Ext w w' → Good K w' S' → Slots K w' σ' Γ' → P Γ' S' → Q σ' w'.H
/-- what the ends by data give the ends -/
structure Rl (w : Hs) (D' : EdD) (D : Ends) : Prop where
  nx : OkN K w D'.nx D.nx
  rt : OkD K w D'.rt D.rt
  bk : OkN K w D'.bk D.bk
  ct : OkN K w D'.ct D.ct
  er : ∀ σ, OkX K W w D'.er σ
def SemS (t : TS) (T : TSd) : Prop := ∀ D' Γ S σ w D, Good K w S → Slots K w σ Γ → T D' Γ S → Rl K W w D' D → t D σ w.H
end
section
variable {K : PySem.W.Frag} {W : WX} {w w' : Hs}
theorem OkN.ext {P : Gam → Sto → Prop} {Q : L2.St → Hp → Prop} (h : OkN K w P Q) (e : Ext w w') : OkN K w' P Q := fun σ Γ w2 S' e2 => h σ Γ w2 S' (e.trans e2)
theorem Rl.ext {D' : EdD} {D : Ends} (h : Rl K W w D' D) (e : Ext w w') : Rl K W w' D' D := ⟨h.nx.ext e, h.rt.ext e, h.bk.ext e, h.ct.ext e, fun σ => (h.er σ).ext e⟩
end
structure JS (X : Cx) (W : WX) (st : Stmt) (t : TS) (T : TSd) : Prop where
  ps : PS X st t
  sem : SemS X.K W t T
structure JB (X : Cx) (W : WX) (st : List Stmt) (t : TS) (T : TSd) : Prop where
  pss : PSs X st t
  sem : SemS X.K W t T
section
variable {X : Cx} {W : WX} {e a b c : Expr} {es : List Expr} {pos : Pos} {ta tb tc te : TE} {Ta Tb Tc Te : TD} {st : Stmt} {rest : List Stmt} {t u : TS} {T U : TSd}
def sNext : TSd := fun D Γ S => D.nx Γ S
def sSeq (T U : TSd) : TSd := fun D Γ S => T { D with nx := U D } Γ S
theorem jb_nil : JB X W [] tNext sNext := ⟨pss_nil, fun D' Γ S σ w D g sl h r => r.nx σ Γ w S (Ext.refl w) g sl h⟩
theorem jb_cons (h1 : JS X W st t T) (h2 : JB X W rest u U) : JB X W (st :: rest) (tSeq t u) (sSeq T U) := ⟨pss_cons h1.ps h2.pss, fun D' Γ S σ w D g sl h r =>
  h1.sem { D' with nx := U D' } Γ S σ w { D with nx := u D } g sl h ⟨fun σ' Γ' w' S' e' g' sl' h' => h2.sem D' Γ' S' σ' w' D g' sl' h' (r.ext e'), r.rt, r.bk, r.ct, r.er⟩⟩
theorem jb_one (h1 : JS X W st t T) : JB X W [st] t T := ⟨pss_one h1.ps, h1.sem⟩
def sBrk : TSd := fun D Γ S => D.bk Γ S
def sCnt : TSd := fun D Γ S => D.ct Γ S
theorem js_break : JS X W (.Break pos) tBreak sBrk := ⟨ps_break, fun D' Γ S σ w D g sl h r => r.bk σ Γ w S (Ext.refl w) g sl h⟩
def sDrop (T : TD) : TSd := fun D Γ S => T Γ S (fun S1 _ => D.nx Γ S1) D.er
theorem js_expr (he : JE X W e te Te) (hs : swapsWith e none pos.line X.env = pure false := by rfl) : JS X W (.Expr e pos) (tDrop te) (sDrop Te) := ⟨ps_expr he.pe hs, fun D' Γ S σ w D g sl h r =>
  he.sem Γ S _ _ σ w g sl h (r.er σ) _ fun v d w' S' e' g' _ h' => r.nx σ Γ w' S' e' g' (sl.ext e') h'⟩
def sRet (T : TD) : TSd := fun D Γ S => T Γ S D.rt D.er
theorem js_ret (he : JE X W e te Te) : JS X W (.Return (some e) pos) (tRet te) (sRet Te) := ⟨ps_ret he.pe, fun D' Γ S σ w D g sl h r => he.sem Γ S _ _ σ w g sl h (r.er σ) _ r.rt⟩
def sRetN : TSd := fun D _ S => D.rt S .non
def sIf (C : TB) (T U : TSd) : TSd := fun D Γ S => C Γ S (fun S1 k => if k = true then T D Γ S1 else U D Γ S1) D.er
theorem js_if {A B : List Stmt} {tt : TT} {C : TB} (hc : JT X W c tt C) (ha : JB X W A t T) (hb : JB X W B u U) : JS X W (.If c A B pos) (tIfS tt t u) (sIf C T U) := ⟨ps_if hc.pt ha.pss hb.pss, fun D' Γ S σ w D g sl h r =>
  hc.sem Γ S _ _ σ w g sl h (r.er σ) _ fun k w' S' e' g' h' => by
    cases k with
    | true => exact ha.sem D' Γ S' σ w' D g' (sl.ext e') h' (r.ext e')
    | false => exact hb.sem D' Γ S' σ w' D g' (sl.ext e') h' (r.ext e')⟩
abbrev TGd := D → Gam → Sto → (Gam → Sto → Prop) → Prop
def SemG (K : PySem.W.Frag) (t : TG) (T : TGd) : Prop := ∀ d Γ S v σ w P Q, Good K w S → Slots K w σ Γ → Rv K w v d → T d Γ S P → OkN K w P Q → t v σ w.H Q
structure JG (X : Cx) (tg : Expr) (t : TG) (T : TGd) : Prop where
  pg : PG X tg t
  sem : SemG X.K t T
abbrev TGs' := List D → Gam → Sto → (Gam → Sto → Prop) → Prop
def SemGs (K : PySem.W.Frag) (t : TGs) (T : TGs') : Prop := ∀ ds Γ S vs σ w P Q, Good K w S → Slots K w σ Γ → Ra K w vs ds → T ds Γ S P → OkN K w P Q → t vs σ w.H Q
structure JGs (X : Cx) (ts : List Expr) (t : TGs) (T : TGs') : Prop where
  pg : PGs X ts t
  sem : SemGs X.K t T
def nmG (i : Nat) : TGd := fun d Γ S P => P (Γ.set i (some d)) S
theorem jg_name (i : Nat) {x : Str} (hN : X.N.Nodup) (hi : X.N[i]? = some x := by rfl) (hx : Loc X.env.scope x := by first | exact Or.inl rfl | exact Or.inr rfl) (hf : X.fn x = true ∨ X.env.scope.names.lookup x = some .local := by first | exact .inl rfl | exact .inr rfl | assumption) : JG X (.Name x pos) (gName i) (nmG i) :=
  ⟨pg_name hN hi hx hf, fun d Γ S v σ w P Q g sl r h q => q _ _ w S (Ext.refl w) g (sl.set r i) h⟩
def gsNil : TGs' := fun ds Γ S P => ds = [] ∧ P Γ S
def gsCons (T : TGd) (U : TGs') : TGs' := fun ds Γ S P => ∃ d r, ds = d :: r ∧ T d Γ S fun Γ' S' => U r Γ' S' P
theorem jgs_nil : JGs X [] gNil gsNil := ⟨pgs_nil, fun ds Γ S vs σ w P Q g sl r ⟨e, h⟩ q => by
  subst e
  cases r
  exact ⟨rfl, q σ Γ w S (Ext.refl w) g sl h⟩⟩
theorem jgs_cons {g1 : TG} {g2 : TGs} {G1 : TGd} {G2 : TGs'} (h1 : JG X e g1 G1) (h2 : JGs X es g2 G2) (hs : (assignEach (e :: es) X.env).map (·.2) = assign e X.env :: (assignEach es X.env).map (·.2) := by rfl) : JGs X (e :: es) (gCons g1 g2) (gsCons G1 G2) :=
  ⟨pgs_cons h1.pg h2.pg hs, fun ds Γ S vs σ w P Q g sl r ⟨d, rr, e, h⟩ q => by
    subst e
    cases r with
    | cons ra rb => exact ⟨_, _, rfl, h1.sem d Γ S _ σ w _ _ g sl ra h fun σ' Γ' w' S' e' g' sl' h' => h2.sem rr Γ' S' _ σ' w' P Q g' sl' (e'.ra rb) h' (q.ext e')⟩⟩
def tupG (n : Nat) (T : TGs') : TGd := fun d Γ S P => ∃ ds, d = .tup ds ∧ ds.length = n ∧ T ds Γ S P
theorem jg_tup {n : Nat} {x1} {gs : TGs} {G : TGs'} (hc : X.calm = true) (h : JGs X es gs G) (hn : (assignEach es X.env).length = n := by rfl) (hst : (assignEach es X.env).findIdx? (·.1) = none := by rfl) : JG X (.Tuple es x1 pos) (gTup X.K n gs) (tupG n G) :=
  ⟨pg_tup hc h.pg hn hst, fun d Γ S v σ w P Q g sl r ⟨ds, e, hl, hT⟩ q => by
    subst e
    cases r with
    | tup hq ra => exact ⟨_, _, rfl, sameSqt g.sub hq, by rw [ra.length]; exact hl, h.sem ds Γ S _ σ w P Q g sl ra hT q⟩⟩
/-- o[i] = v -/
def TSetD (K : PySem.W.Frag) (t : TSet) (f : D → D → D → Sto → (Sto → Prop) → Prop) : Prop := ∀ w S o i v do_ di dv P Q, Good K w S → Rv K w o do_ → Rv K w i di → Rv K w v dv → f do_ di dv S P → (∀ w' S', Ext w w' → Good K w' S' → P S' → Q w'.H) → t o i v w.H Q
def subG (f : D → D → D → Sto → (Sto → Prop) → Prop) (To Ti : TD) : TGd := fun d Γ S P => To Γ S (fun S1 o => Ti Γ S1 (fun S2 i => f o i d S2 fun S3 => P Γ S3) fun _ _ => False) fun _ _ => False
theorem jg_sub {o i : Expr} {to ti : TE} {To Ti : TD} {ts : TSet} {f : D → D → D → Sto → (Sto → Prop) → Prop} (ho : JE X (fun _ _ _ _ => False) o to To) (hi : JE X (fun _ _ _ _ => False) i ti Ti) (hs : PSet X ts) (hd : TSetD X.K ts f)
    (hha : ∀ v, assign (.Subscript o i pos) X.env v = (do
      let ov ← holding [v] (eval o X.env)
      let iv ← holding [v, ov] (eval i X.env)
      standAt pos
      holding [v, ov, iv] (setItem ov iv v)
      release [v, ov, iv] []) := by intro _; rfl) : JG X (.Subscript o i pos) (gSub to ti ts) (subG f To Ti) :=
  ⟨pg_sub ho.pe hi.pe hs hha, fun d Γ S v σ w P Q g sl r h q => ho.sem Γ S _ _ σ w g sl h (fun _ _ _ _ _ _ _ _ z => z) _ fun vo do_ w1 S1 e1 g1 r1 h1 =>
    hi.sem Γ S1 _ _ σ w1 g1 (sl.ext e1) h1 (fun _ _ _ _ _ _ _ _ z => z) _ fun vi di w2 S2 e2 g2 r2 h2 =>
      hd w2 S2 vo vi v do_ di d _ _ g2 (e2.rp r1) r2 ((e1.trans e2).rp r) h2 fun w3 S3 e3 g3 h3 => q σ Γ w3 S3 ((e1.trans e2).trans e3) g3 (sl.ext ((e1.trans e2).trans e3)) h3⟩
def sAsg (T : TD) (G : TGd) : TSd := fun D Γ S => T Γ S (fun S1 d => G d Γ S1 D.nx) D.er
theorem sem_asg {K : PySem.W.Frag} {g : TG} {G : TGd} (he : SemE K W te Te) (hg : SemG K g G) : SemS K W (tAsg te g) (sAsg Te G) := fun D' Γ S σ w D g0 sl h r =>
  he Γ S _ _ σ w g0 sl h (r.er σ) _ fun v d w1 S1 e1 g1 r1 h1 => hg d Γ S1 v σ w1 D'.nx D.nx g1 (sl.ext e1) r1 h1 (r.nx.ext e1)
theorem js_asg {tg : Expr} {g : TG} {G : TGd} (he : JE X W e te Te) (hg : JG X tg g G) (hs : swapsWithSole [tg] e pos.line X.env = pure false := by rfl) (hw : swappedStores [tg] e X.env = pure none := by rfl)
    (h1 : (assignEach [tg] X.env).map (·.2) = [assign tg X.env] := by rfl) : JS X W (.Assign [tg] e pos) (tAsg te g) (sAsg Te G) :=
  ⟨ps_asg he.pe hg.pg hs hw h1, sem_asg he.sem hg.sem⟩
theorem sem_nmG {K : PySem.W.Frag} (i : Nat) : SemG K (gName i) (nmG i) := fun d Γ S v σ w P Q g sl r h q => q _ _ w S (Ext.refl w) g (sl.set r i) h
theorem js_set (i : Nat) {x : Str} {pos' : Pos} (hN : X.N.Nodup) (he : JE X W e te Te) (hi : X.N[i]? = some x := by rfl) (hx : Loc X.env.scope x := by first | exact Or.inl rfl | exact Or.inr rfl) (hs : swapsWith e (some (.Name x pos')) pos.line X.env = pure false := by rfl)
    (hf : X.fn x = true ∨ X.env.scope.names.lookup x = some .local := by first | exact .inl rfl | exact .inr rfl | assumption) : JS X W (.Assign [.Name x pos'] e pos) (tAsg te (gName i)) (sAsg Te (nmG i)) := ⟨ps_set hN hi hx he.pe hs hf, sem_asg he.sem (sem_nmG i)⟩
/-- a, b = e1, e2 -/
def sPar (i j : Nat) (T : TL) : TSd := fun D Γ S => T Γ S (fun S1 ds => ∃ x y, ds = [x, y] ∧ D.nx ((Γ.set i (some x)).set j (some y)) S1) D.er
theorem sem_par {K : PySem.W.Frag} {i j : Nat} {tl : TA} {Tl : TL} (h : SemA K W tl Tl) : SemS K W (tPar i j tl) (sPar i j Tl) := fun D' Γ S σ w D g sl hT r =>
  h Γ S _ _ σ w g sl hT (r.er σ) _ fun vs ds w1 S1 e1 g1 r1 ⟨x, y, e, h1⟩ => by
    subst e
    cases r1 with
    | cons ra rb =>
      cases rb with
      | cons rc rd =>
        cases rd
        exact ⟨_, _, rfl, r.nx _ _ w1 S1 e1 g1 (((sl.ext e1).set ra i).set rc j) h1⟩
theorem js_par (i j : Nat) {x y : Str} {px py pt : Pos} {kt k2 pt2} {tl : TA} {Tl : TL} (hc : X.calm = true) (hN : X.N.Nodup) (ha : JA X W [a, b] tl Tl) (hij : i ≠ j := by decide) (hi : X.N[i]? = some x := by rfl) (hj : X.N[j]? = some y := by rfl)
    (hx : X.env.scope.names.lookup x = some .local := by rfl) (hy : X.env.scope.names.lookup y = some .local := by rfl)
    (hw : swappedStores [.Tuple [.Name x px, .Name y py] kt pt] (.Tuple [a, b] k2 pt2) X.env = pure (some [x, y]) := by rfl)
    (hs : swapsWithSole [.Tuple [.Name x px, .Name y py] kt pt] (.Tuple [a, b] k2 pt2) pos.line X.env = pure false := by rfl) :
    JS X W (.Assign [.Tuple [.Name x px, .Name y py] kt pt] (.Tuple [a, b] k2 pt2) pos) (tPar i j tl) (sPar i j Tl) := ⟨ps_par hc hN hi hj hij hx hy ha.pa hw hs, sem_par ha.sem⟩
/-- x += e -/
def sAug (i : Nat) (T : TD) (f : D → D → Sto → KD → Prop) : TSd := fun D Γ S => ∃ d, Γ[i]? = some (some d) ∧ T Γ S (fun S1 y => f d y S1 fun S2 z => D.nx (Γ.set i (some z)) S2) D.er
def IpD (K : PySem.W.Frag) (t : TIp) (f : D → D → Sto → KD → Prop) : Prop := ∀ w S x y u v Φ Q, Good K w S → Rv K w x u → Rv K w y v → f u v S Φ → OkD K w Φ Q → t x y w.H Q
theorem js_aug (i : Nat) {x : Str} {op : Operator} {ti : TIp} {f : D → D → Sto → KD → Prop} {pos' : Pos} (hN : X.N.Nodup) (he : JE X W e te Te) (ho : PIp X op ti) (hd : IpD X.K ti f) (hi : X.N[i]? = some x := by rfl) (hx : Loc X.env.scope x := by first | exact Or.inl rfl | exact Or.inr rfl)
    (hf : X.fn x = true ∨ X.env.scope.names.lookup x = some .local := by first | exact .inl rfl | exact .inr rfl | assumption) : JS X W (.AugAssign (.Name x pos') op e pos) (tAug i te ti) (sAug i Te f) :=
  ⟨ps_aug hN hi hx he.pe ho hf, fun D' Γ S σ w D g sl ⟨d, h1, h2⟩ r => by
    obtain ⟨v, h3, rv⟩ := sl.2 i d h1
    exact ⟨v, h3, he.sem Γ S _ _ σ w g sl h2 (r.er σ) _ fun v2 d2 w1 S1 e1 g1 r1 h4 => hd w1 S1 v v2 d d2 _ _ g1 (e1.rp rv) r1 h4 fun v3 d3 w2 S2 e2 g2 r2 h5 => r.nx _ _ w2 S2 (e1.trans e2) g2 ((sl.ext (e1.trans e2)).set r2 i) h5⟩⟩
/-- the items behind a source, by the cells -/
abbrev Src := Sto → Option (List D)
def SrcOk (K : PySem.W.Frag) (w0 : Hs) (J : It) (src : Src) : Prop := ∀ w S ds i, Ext w0 w → Good K w S → src S = some ds →
  (∀ d, ds[i]? = some d → J.go i w.H ∧ ∀ x H', J.yld i w.H x H' → ∃ w', Ext w w' ∧ Good K w' S ∧ w'.H = H' ∧ Rv K w' x d) ∧ (ds.length ≤ i → J.stop i w.H)
abbrev TId := Gam → Sto → (Sto → Src → Prop) → KX → Prop
def SemI (K : PySem.W.Frag) (W : WX) (t : TI) (T : TId) : Prop := ∀ Γ S Φ Ψ σ w, Good K w S → Slots K w σ Γ → T Γ S Φ Ψ → OkX K W w Ψ σ → ∀ Q : It → Hp → Prop, (∀ J src w' S', Ext w w' → Good K w' S' → SrcOk K w' J src → Φ S' src → Q J w'.H) → t σ w.H Q
structure JI (X : Cx) (W : WX) (tg iter : Expr) (t : TI) (T : TId) : Prop where
  pi : PI X tg iter t
  sem : SemI X.K W t T
/-- for: n turns, P the invariant -/
def sFor (I : TId) (G : TGd) (B : TSd) : TSd := fun D Γ S => I Γ S (fun S1 src => ∃ (P : Nat → Gam → Sto → Prop) (n : Nat), P 0 Γ S1 ∧
  (∀ i Γ' S', i ≤ n → P i Γ' S' → ∃ ds, src S' = some ds ∧ ds.length = n) ∧
  (∀ i Γ' S' ds d, P i Γ' S' → src S' = some ds → ds[i]? = some d → G d Γ' S' fun Γ2 S2 => B { D with nx := P (i + 1), ct := P (i + 1), bk := D.nx } Γ2 S2) ∧
  (∀ Γ' S', P n Γ' S' → D.nx Γ' S')) D.er
theorem sem_for {K : PySem.W.Frag} {wi : TI} {g : TG} {tb : TS} {I : TId} {G : TGd} {B : TSd} (hi : SemI K W wi I) (hg : SemG K g G) (hb : SemS K W tb B) : SemS K W (tFor wi g tb) (sFor I G B) := fun D' Γ S σ w D g0 sl h r =>
  hi Γ S _ _ σ w g0 sl h (r.er σ) _ fun J src w1 S1 e1 g1 ok ⟨P, n, h0, hl, hs, hd⟩ => by
    refine ⟨fun i m σ' H' => m + i = n ∧ ∃ w' Γ' S', H' = w'.H ∧ Ext w1 w' ∧ Good K w' S' ∧ Slots K w' σ' Γ' ∧ P i Γ' S', ⟨n, by omega, w1, Γ, S1, rfl, Ext.refl w1, g1, sl.ext e1, h0⟩, ?_⟩
    rintro i m σ' H' ⟨hm, w', Γ', S', rfl, e', g', sl', p⟩
    obtain ⟨ds, hsrc, hlen⟩ := hl i Γ' S' (by omega) p
    have q := ok w' S' ds i e' g' hsrc
    by_cases hlt : i < n
    · have hx : ds[i]? = some ds[i] := List.getElem?_eq_getElem (by omega)
      obtain ⟨hgo, hy⟩ := q.1 _ hx
      refine .inr ⟨hgo, fun σ2 H2 => ∃ w2 Γ2 S2, H2 = w2.H ∧ Ext w1 w2 ∧ Good K w2 S2 ∧ Slots K w2 σ2 Γ2 ∧ P (i + 1) Γ2 S2, ?_, ?_⟩
      · rintro σ2 H2 ⟨w2, Γ2, S2, rfl, e2, g2, sl2, p2⟩
        exact ⟨m - 1, by omega, by omega, w2, Γ2, S2, rfl, e2, g2, sl2, p2⟩
      · intro x H2 hyl
        obtain ⟨w2, e2, g2, rfl, r2⟩ := hy x H2 hyl
        have e12 := e'.trans e2
        refine hg _ Γ' S' x σ' w2 _ _ g2 (sl'.ext e2) r2 (hs i Γ' S' ds _ p hsrc hx) fun σ3 Γ3 w3 S3 e3 g3 sl3 h3 => ?_
        have e13 := e12.trans e3
        refine hb _ Γ3 S3 σ3 w3 _ g3 sl3 h3 ⟨fun σ4 Γ4 w4 S4 e4 g4 sl4 h4 => ⟨w4, Γ4, S4, rfl, e13.trans e4, g4, sl4, h4⟩, (r.ext (e1.trans e13)).rt, (r.ext (e1.trans e13)).nx, fun σ4 Γ4 w4 S4 e4 g4 sl4 h4 => ⟨w4, Γ4, S4, rfl, e13.trans e4, g4, sl4, h4⟩, (r.ext (e1.trans e13)).er⟩
    · have hin : i = n := by omega
      subst hin
      exact .inl ⟨q.2 (by omega), r.nx σ' Γ' w' S' (e1.trans e') g' sl' (hd Γ' S' p)⟩
theorem js_for {tg iter : Expr} {body : List Stmt} {wi : TI} {g : TG} {tb : TS} {I : TId} {G : TGd} {B : TSd} (hp : PassesOwn (model X.prog X.w) X.A X.env X.xe) (hc : X.calm = true) (hi : JI X W tg iter wi I) (hg : JG X tg g G) (hb : JB X W body tb B) (hs : ∀ x, foldedSetIterable iter X.env x = pure x := by intro _; rfl) :
    JS X W (.For tg iter body [] pos) (tFor wi g tb) (sFor I G B) := ⟨ps_for hp hc hi.pi hg.pg hb.pss hs, sem_for hi.sem hg.sem hb.sem⟩
/-- while -/
def sWhile (C : TB) (B : TSd) : TSd := fun D Γ S => ∃ P : Nat → Gam → Sto → Prop, (∃ m, P m Γ S) ∧ ∀ m Γ' S', P m Γ' S' → C Γ' S' (fun S1 k => if k = true then B { D with nx := fun Γ2 S2 => ∃ m', m' < m ∧ P m' Γ2 S2, ct := fun Γ2 S2 => ∃ m', m' < m ∧ P m' Γ2 S2, bk := D.nx } Γ' S1 else D.nx Γ' S1) D.er
def gstart (N : List Str) (ds : List D) : Gam := ds.map some ++ List.replicate (N.length - ds.length) none
theorem slots_start {K : PySem.W.Frag} {w : Hs} {N : List Str} {vs : List V} {ds : List D} (r : Ra K w vs ds) : Slots K w (L2.start N vs) (gstart N ds) := by
  refine ⟨by simp [L2.start, gstart, r.length], fun i d h => ?_⟩
  unfold gstart at h
  by_cases hi : i < ds.length
  · rw [List.getElem?_append_left (by simpa using hi), List.getElem?_map] at h
    cases q : ds[i]? with
    | none => rw [q] at h; cases h
    | some d' =>
      rw [q] at h; cases h
      obtain ⟨v, h1, h2⟩ := r.get q
      refine ⟨v, ?_, h2⟩
      unfold L2.start
      rw [List.getElem?_append_left (by rw [List.length_map]; exact (List.getElem?_eq_some_iff.mp h1).1), List.getElem?_map, h1] <;> rfl
  · rw [List.getElem?_append_right (by simpa using hi)] at h
    rw [List.getElem?_replicate] at h
    split at h <;> cases h
/-- the wish of a def's body -/
abbrev WD (E : XK) : WX := fun cv dx _ H => E cv dx H
structure JTs (X : Cx) (ifs : List Expr) (t : TT) (T : TB) : Prop where
  pts : PTs X ifs t
  sem : SemT X.K (fun _ _ _ _ => False) t T
def bYes : TB := fun _ S Φ _ => Φ S true
theorem jts_nil : JTs X [] tYes bYes := ⟨pts_nil, fun Γ S Φ Ψ σ w g sl h hx Q q => q true w S (Ext.refl w) g h⟩
theorem jts_one {tt : TT} {C : TB} (h : JT X (fun _ _ _ _ => False) c tt C) : JTs X [c] tt C := ⟨pts_one h.pt, h.sem⟩
/-- [elt for tg in iter if ..]: P by the turn, the cells and what is made so far -/
def dLc (I : TId) (G : TGd) (C : TB) (Te : TD) (vs : List Nat) (Fin : List D → Sto → KD → Prop) : TD := fun Γ S Φ Ψ => I Γ S (fun S1 src => ∃ (P : Nat → List D → Sto → Prop) (n : Nat), n ≤ sizeLine ∧ P 0 [] S1 ∧
  (∀ i acc S', i ≤ n → P i acc S' → ∃ ds, src S' = some ds ∧ ds.length = n) ∧
  (∀ i acc S' ds d, P i acc S' → src S' = some ds → ds[i]? = some d → G d (gwipe Γ vs) S' fun Γ2 S2 => C Γ2 S2 (fun S3 k => if k = true then Te Γ2 S3 (fun S4 y => P (i + 1) (acc ++ [y]) S4) (fun _ _ => False) else P (i + 1) acc S3) (fun _ _ => False)) ∧
  (∀ acc S', P n acc S' → Fin acc S' Φ)) Ψ
def finF : List D → Sto → KD → Prop := fun acc S Φ => Φ S (.lst acc)
def finO : List D → Sto → KD → Prop := fun acc S Φ => Φ (S ++ [.lst acc]) (.own S.length)
def FinOk (Fin : List D → Sto → KD → Prop) : Prop := ∀ (K : PySem.W.Frag) (w : Hs) (S : Sto) (acc : List D) (Φ : KD) (p : Addr) (xs : List V) (Q : V → Hp → Prop), Good K w S → w.H p = some (.lst xs) → w.F p = none → p ∉ w.al → Ra K w xs acc → Fin acc S Φ →
  (∀ v d w' S', (∀ a o, w.F a = some o → w'.F a = some o) → (∀ a o, w'.F a = some o → w.F a = some o ∨ a = p) → (w'.al = w.al ∨ w'.al = w.al ++ [p]) → w'.H = w.H → Good K w' S' → Rv K w' v d → Φ S' d → Q v w'.H) → Q (.ref p) w.H
theorem finF_ok : FinOk finF := by
  intro K w S acc Φ p xs Q g hH hF hA r h q
  let w' : Hs := ⟨upd w.F p (.lst xs), w.al, w.H⟩
  have up : ∀ a o, w.F a = some o → w'.F a = some o := updF hF
  have ra : Ra K w' xs acc := RpA.mono up (fun _ _ z => z) acc xs r
  refine q (.ref p) (.lst acc) w' S up (fun a o e => ?_) (.inl rfl) rfl ⟨fun a o e => ?_, g.nd, g.len, fun n a c q1 q2 => ?_, g.dom⟩ (.lst upd_same ra) h
  · by_cases z : a = p
    · exact .inr z
    · have e2 : upd w.F p (.lst xs) a = some o := e
      rw [upd_ne z] at e2
      exact .inl e2
  · have e2 : upd w.F p (.lst xs) a = some o := e
    by_cases z : a = p
    · subst z; rw [upd_same] at e2; cases e2; exact hH
    · rw [upd_ne z] at e2; exact g.sub a o e2
  · have hne : a ≠ p := fun z => hA (z ▸ List.mem_of_getElem? q1)
    cases c with
    | gone => exact True.intro
    | lst ds =>
      obtain ⟨h1, ys, h2, h3⟩ := g.cell n a _ q1 q2
      exact ⟨by show upd w.F p _ a = none; rw [upd_ne hne]; exact h1, ys, h2, RpA.mono up (fun _ _ z => z) ds ys h3⟩
    | ins C fs =>
      obtain ⟨h1, dx, ys, h2, h3⟩ := g.cell n a _ q1 q2
      exact ⟨by show upd w.F p _ a = none; rw [upd_ne hne]; exact h1, dx, ys, h2, RpF.mono up (fun _ _ z => z) fs ys h3⟩
    | dct ks =>
      obtain ⟨h1, us, h2, h3⟩ := g.cell n a _ q1 q2
      exact ⟨by show upd w.F p _ a = none; rw [upd_ne hne]; exact h1, us, h2, h3.mono up (fun _ _ z => z)⟩
    | dck ks =>
      obtain ⟨h1, us, h2, h3⟩ := g.cell n a _ q1 q2
      exact ⟨by show upd w.F p _ a = none; rw [upd_ne hne]; exact h1, us, h2, RpK.mono up (fun _ _ z => z) ks us h3⟩
    | lck o us ks =>
      obtain ⟨h1, h2, h3⟩ := g.cell n a _ q1 q2
      exact ⟨by show upd w.F p _ a = none; rw [upd_ne hne]; exact h1, h2, RpK.mono up (fun _ _ z => z) ks us h3⟩
theorem finO_ok : FinOk finO := by
  intro K w S acc Φ p xs Q g hH hF hA r h q
  let w' : Hs := ⟨w.F, w.al ++ [p], w.H⟩
  have am : ∀ (n : Nat) (a : Addr), w.al[n]? = some a → w'.al[n]? = some a := fun n a z => by
    show (w.al ++ [p])[n]? = some a
    rw [List.getElem?_append_left (List.getElem?_eq_some_iff.mp z).1]; exact z
  have ra : Ra K w' xs acc := RpA.mono (fun _ _ z => z) am acc xs r
  refine q (.ref p) (.own S.length) w' (S ++ [Cell.lst acc]) (fun _ _ z => z) (fun _ _ z => .inl z) (.inr rfl) rfl ⟨g.sub, ?_, ?_, fun n a c q1 q2 => ?_, fun a z => ?_⟩ (.own ?_) h
  · show (w.al ++ [p]).Nodup
    rw [List.nodup_append]
    exact ⟨g.nd, by simp, fun a ha b hb => by rw [List.mem_singleton.mp hb]; exact fun z => hA (z ▸ ha)⟩
  · show (w.al ++ [p]).length = _
    rw [List.length_append, List.length_append, g.len] <;> rfl
  · have q1 : (w.al ++ [p])[n]? = some a := q1
    by_cases hn : n < w.al.length
    · rw [List.getElem?_append_left hn] at q1
      rw [List.getElem?_append_left (by rw [← g.len]; exact hn)] at q2
      cases c with
      | gone => exact True.intro
      | lst ds =>
        obtain ⟨h1, ys, h2, h3⟩ := g.cell n a _ q1 q2
        exact ⟨h1, ys, h2, RpA.mono (fun _ _ z => z) am ds ys h3⟩
      | ins C fs =>
        obtain ⟨h1, dx, ys, h2, h3⟩ := g.cell n a _ q1 q2
        exact ⟨h1, dx, ys, h2, RpF.mono (fun _ _ z => z) am fs ys h3⟩
      | dct ks =>
        obtain ⟨h1, us, h2, h3⟩ := g.cell n a _ q1 q2
        exact ⟨h1, us, h2, h3.mono (fun _ _ z => z) am⟩
      | dck ks =>
        obtain ⟨h1, us, h2, h3⟩ := g.cell n a _ q1 q2
        exact ⟨h1, us, h2, RpK.mono (fun _ _ z => z) am ks us h3⟩
      | lck o us ks =>
        obtain ⟨h1, h2, h3⟩ := g.cell n a _ q1 q2
        exact ⟨h1, h2, RpK.mono (fun _ _ z => z) am ks us h3⟩
    · have hn2 : n = w.al.length := by
        have := (List.getElem?_eq_some_iff.mp q1).1
        rw [List.length_append] at this
        have h1 : [p].length = 1 := rfl
        omega
      subst hn2
      rw [List.getElem?_append_right (Nat.le_refl _), Nat.sub_self] at q1
      rw [List.getElem?_append_right (by rw [g.len]; exact Nat.le_refl _), g.len, Nat.sub_self] at q2
      have e1 : p = a := Option.some.inj q1
      have e2 : Cell.lst acc = c := Option.some.inj q2
      subst e1; subst e2
      exact ⟨hF, xs, hH, ra⟩
  · have z : a ∈ w.al ++ [p] := z
    rcases List.mem_append.mp z with z | z
    · exact g.dom a z
    · rw [List.mem_singleton.mp z, hH]; exact fun z => nomatch z
  · show (w.al ++ [p])[S.length]? = some p
    rw [← g.len, List.getElem?_append_right (Nat.le_refl _), Nat.sub_self] <;> rfl
theorem wipe_set {σ : L2.St} : ∀ {vs : List Nat} {i : Nat} {o : Option V}, i ∈ vs → L2.wipe (σ.set i o) vs = L2.wipe σ vs
  | [], _, _, h => nomatch h
  | v :: vs, i, o, h => by
    by_cases hv : i ∈ vs
    · show (L2.wipe (σ.set i o) vs).set v none = (L2.wipe σ vs).set v none
      rw [wipe_set hv]
    · have e : i = v := by
        rcases List.mem_cons.mp h with z | z
        · exact z
        · exact absurd z hv
      subst e
      have out : ∀ (us : List Nat) (G : L2.St), i ∉ us → L2.wipe (G.set i o) us = (L2.wipe G us).set i o := by
        intro us
        induction us with
        | nil => intro G _; rfl
        | cons u us ih =>
          intro G hn
          have h1 : i ≠ u := fun z => hn (by rw [z]; exact List.mem_cons_self)
          have h2 : i ∉ us := fun z => hn (List.mem_cons_of_mem _ z)
          show (L2.wipe (G.set i o) us).set u none = ((L2.wipe G us).set u none).set i o
          rw [ih G h2, List.set_comm _ _ h1]
      show (L2.wipe (σ.set i o) vs).set i none = (L2.wipe σ vs).set i none
      rw [out vs σ hv, List.set_set]
theorem wipe_wipe (σ : L2.St) : ∀ (vs us : List Nat), (∀ v ∈ us, v ∈ vs) → L2.wipe (L2.wipe σ us) vs = L2.wipe σ vs
  | vs, [], _ => rfl
  | vs, u :: us, h => by
    show L2.wipe ((L2.wipe σ us).set u none) vs = L2.wipe σ vs
    rw [wipe_set (h u List.mem_cons_self)]
    exact wipe_wipe σ vs us fun v hv => h v (List.mem_cons_of_mem _ hv)
/-- a target that stores in the slots vs alone -/
structure GK (vs : List Nat) (g : TG) : Prop where
  keep : ∀ x σ H k, g x σ H k → g x σ H fun σ2 H2 => L2.wipe σ2 vs = L2.wipe σ vs ∧ k σ2 H2
structure GKs (vs : List Nat) (g : TGs) : Prop where
  keep : ∀ x σ H k, g x σ H k → g x σ H fun σ2 H2 => L2.wipe σ2 vs = L2.wipe σ vs ∧ k σ2 H2
  mono : ∀ x σ H (k k' : L2.St → Hp → Prop), (∀ σ H, k σ H → k' σ H) → g x σ H k → g x σ H k'
theorem gk_name {vs : List Nat} {i : Nat} (h : i ∈ vs := by decide) : GK vs (gName i) := ⟨fun x σ H k q => ⟨wipe_set h, q⟩⟩
theorem gks_nil {vs : List Nat} : GKs vs gNil := ⟨fun x σ H k ⟨e, q⟩ => ⟨e, rfl, q⟩, fun x σ H k k' h ⟨e, q⟩ => ⟨e, h _ _ q⟩⟩
theorem gks_name {vs : List Nat} {i : Nat} {u : TGs} (h2 : GKs vs u) (h : i ∈ vs := by decide) : GKs vs (gCons (gName i) u) :=
  ⟨fun x σ H k ⟨v, r, e, q⟩ => ⟨v, r, e, h2.mono _ _ _ _ _ (fun σ2 H2 ⟨z, y⟩ => ⟨z.trans (wipe_set h), y⟩) (h2.keep _ _ _ _ q)⟩, fun x σ H k k' hh ⟨v, r, e, q⟩ => ⟨v, r, e, h2.mono _ _ _ _ _ hh q⟩⟩
theorem gk_tup {vs : List Nat} {K : PySem.W.Frag} {n : Nat} {u : TGs} (h : GKs vs u) : GK vs (gTup K n u) := ⟨fun x σ H k ⟨a, xs, e, q, l, z⟩ => ⟨a, xs, e, q, l, h.keep _ _ _ _ z⟩⟩
/-- the world with a list in the making at p -/
def Hs.at (w : Hs) (p : Addr) (o : HO) : Hs := ⟨w.F, w.al, upd w.H p o⟩
theorem Good.at {K : PySem.W.Frag} {w : Hs} {S : Sto} (g : Good K w S) {p : Addr} (o : HO) (hF : w.F p = none) (hA : p ∉ w.al) : Good K (w.at p o) S := by
  refine ⟨fun a x q => ?_, g.nd, g.len, fun n a c q1 q2 => ?_, fun a q => ?_⟩
  · show upd w.H p o a = some x
    rw [upd_ne (ne_of_none q hF)]; exact g.sub a x q
  · have hne : a ≠ p := fun z => hA (z ▸ List.mem_of_getElem? q1)
    cases c with
    | gone => exact True.intro
    | lst ds =>
      obtain ⟨h1, ys, h2, h3⟩ := g.cell n a _ q1 q2
      exact ⟨h1, ys, by show upd w.H p o a = _; rw [upd_ne hne]; exact h2, h3⟩
    | ins C fs =>
      obtain ⟨h1, dx, ys, h2, h3⟩ := g.cell n a _ q1 q2
      exact ⟨h1, dx, ys, by show upd w.H p o a = _; rw [upd_ne hne]; exact h2, h3⟩
    | dct ks =>
      obtain ⟨h1, us, h2, h3⟩ := g.cell n a _ q1 q2
      exact ⟨h1, us, by show upd w.H p o a = _; rw [upd_ne hne]; exact h2, h3⟩
    | dck ks =>
      obtain ⟨h1, us, h2, h3⟩ := g.cell n a _ q1 q2
      exact ⟨h1, us, by show upd w.H p o a = _; rw [upd_ne hne]; exact h2, h3⟩
    | lck o' us ks =>
      obtain ⟨h1, h2, h3⟩ := g.cell n a _ q1 q2
      exact ⟨h1, by show upd w.H p o a = _; rw [upd_ne hne]; exact h2, h3⟩
  · show upd w.H p o a ≠ none
    by_cases z : a = p
    · rw [z, upd_same]; exact fun z => nomatch z
    · rw [upd_ne z]; exact g.dom a q
theorem Ext.at {w0 w : Hs} (e : Ext w0 w) {p : Addr} (o : HO) (h0 : w0.H p = none) : Ext w0 (w.at p o) := by
  refine ⟨e.f, e.al, e.new, fun a x q n => ?_, fun a q => ?_⟩
  · show upd w.H p o a = some x
    rw [upd_ne (ne_of_none q h0)]; exact e.kp a x q n
  · show upd w.H p o a ≠ none
    by_cases z : a = p
    · rw [z, upd_same]; exact fun z => nomatch z
    · rw [upd_ne z]; exact e.dm a q
/-- an address that is neither frozen nor a cell stays so -/
theorem Ext.hid {w w' : Hs} (e : Ext w w') {p : Addr} {o : HO} (hH : w.H p = some o) (hF : w.F p = none) (hA : p ∉ w.al) : w'.H p = some o ∧ w'.F p = none ∧ p ∉ w'.al := by
  refine ⟨e.kp p o hH hA, ?_, fun z => ?_⟩
  · cases q : w'.F p with
    | none => rfl
    | some x =>
      rcases e.new p x q with z | z | z
      · rw [hF] at z; cases z
      · rw [hH] at z; cases z
      · exact absurd z hA
  · rcases e.old z with y | y
    · exact hA y
    · rw [hH] at y; cases y
theorem sem_lc {K : PySem.W.Frag} {wi : TI} {g : TG} {tt : TT} {te : TE} {I : TId} {G : TGd} {C : TB} {Te : TD} {vs : List Nat} {Fin : List D → Sto → KD → Prop} (hi : SemI K W wi I) (hg : SemG K g G) (hk : GK vs g) (ht : SemT K (fun _ _ _ _ => False) tt C) (he : SemE K (fun _ _ _ _ => False) te Te) (hf : FinOk Fin) :
    SemE K W (tLc wi g tt te vs) (dLc I G C Te vs Fin) := fun Γ S Φ Ψ σ w g0 sl h hx Q q =>
  hi Γ S _ _ σ w g0 sl h hx _ fun J src w1 S1 e1 g1 ok ⟨P, n, hn, h0, hl, hs, hd⟩ => fun p hp => by
    have hF1 := g1.notF hp
    have hA1 := g1.notA hp
    refine ⟨fun i m H' => m + i = n ∧ ∃ w' S' acc accV, H' = w'.H ∧ Ext w1 w' ∧ Good K w' S' ∧ w'.F p = none ∧ p ∉ w'.al ∧ w'.H p = some (.lst accV) ∧ Ra K w' accV acc ∧ P i acc S' ∧ acc.length ≤ i,
      ⟨n, by omega, w1.at p (.lst []), S1, [], [], rfl, (Ext.refl w1).at _ hp, g1.at _ hF1 hA1, hF1, hA1, upd_same, .nil, h0, Nat.le_refl _⟩, ?_⟩
    rintro i m H' ⟨hm, w', S', acc, accV, rfl, e', g', hF, hA, hH, hr, pp, hlen⟩
    obtain ⟨ds, hsrc, hlenD⟩ := hl i acc S' (by omega) pp
    have qq := ok w' S' ds i e' g' hsrc
    by_cases hlt : i < n
    · have hx' : ds[i]? = some ds[i] := List.getElem?_eq_getElem (by omega)
      obtain ⟨hgo, hy⟩ := qq.1 _ hx'
      refine .inr ⟨hgo, fun H2 => ∃ w2 S2 acc2 accV2, H2 = w2.H ∧ Ext w1 w2 ∧ Good K w2 S2 ∧ w2.F p = none ∧ p ∉ w2.al ∧ w2.H p = some (.lst accV2) ∧ Ra K w2 accV2 acc2 ∧ P (i + 1) acc2 S2 ∧ acc2.length ≤ i + 1, ?_, ?_⟩
      · rintro H2 ⟨w2, S2, acc2, accV2, r⟩
        exact ⟨m - 1, by omega, by omega, w2, S2, acc2, accV2, r⟩
      · intro x H2 hyl
        obtain ⟨w2, e2, g2, rfl, r2⟩ := hy x H2 hyl
        have sl2 : Slots K w2 (L2.wipe σ vs) (gwipe Γ vs) := (sl.ext ((e1.trans e').trans e2)).wipe vs
        have s1 := hk.keep x (L2.wipe σ vs) w2.H _ (hg _ (gwipe Γ vs) S' x (L2.wipe σ vs) w2 _ (fun σ2 H2 => tt σ2 H2 fun b H3 => if b = true then te σ2 H3 fun y H4 => ∃ acc, H4 p = some (.lst acc) ∧ acc.length < sizeLine ∧ (∃ w2 S2 acc2 accV2, upd H4 p (.lst (acc ++ [y])) = w2.H ∧ Ext w1 w2 ∧ Good K w2 S2 ∧ w2.F p = none ∧ p ∉ w2.al ∧ w2.H p = some (.lst accV2) ∧ Ra K w2 accV2 acc2 ∧ P (i + 1) acc2 S2 ∧ acc2.length ≤ i + 1)
          else ∃ w2 S2 acc2 accV2, H3 = w2.H ∧ Ext w1 w2 ∧ Good K w2 S2 ∧ w2.F p = none ∧ p ∉ w2.al ∧ w2.H p = some (.lst accV2) ∧ Ra K w2 accV2 acc2 ∧ P (i + 1) acc2 S2 ∧ acc2.length ≤ i + 1) g2 sl2 r2 (hs i acc S' ds _ pp hsrc hx') fun σ3 Γ3 w3 S3 e3 g3 sl3 h3 => ?_)
        · rw [wipe_wipe σ vs vs fun _ z => z] at s1
          exact s1
        · have e23 := e2.trans e3
          refine ht Γ3 S3 _ _ σ3 w3 g3 sl3 h3 (fun _ _ _ _ _ _ _ _ z => z) _ fun b w4 S4 e4 g4 h4 => ?_
          have e24 := e23.trans e4
          have ee4 := e'.trans e24
          obtain ⟨hH4, hF4, hA4⟩ := e24.hid hH hF hA
          cases b with
          | false => exact ⟨w4, S4, acc, accV, rfl, ee4, g4, hF4, hA4, hH4, e24.ra hr, h4, by omega⟩
          | true =>
            refine he Γ3 S4 _ _ σ3 w4 g4 (sl3.ext e4) h4 (fun _ _ _ _ _ _ _ _ z => z) _ fun y dy w5 S5 e5 g5 r5 h5 => ?_
            have e25 := e24.trans e5
            have ee5 := e'.trans e25
            obtain ⟨hH5, hF5, hA5⟩ := e25.hid hH hF hA
            refine ⟨accV, hH5, by rw [hr.length]; omega, w5.at p (.lst (accV ++ [y])), S5, acc ++ [dy], accV ++ [y], rfl, ee5.at _ hp, g5.at _ hF5 hA5, hF5, hA5, upd_same, RpA.append (e25.ra hr) (.cons r5 .nil), h5, by rw [List.length_append]; show acc.length + 1 ≤ i + 1; omega⟩
    · have hin : i = n := by omega
      subst hin
      refine .inl ⟨qq.2 (by omega), ?_⟩
      refine hf K w' S' acc Φ p accV (fun v H => Q v H) g' hH hF hA hr (hd acc S' pp) fun v d w2 S2 hF2 hN2 hal hHH g2 r2 h2 => q v d w2 S2 (e1.trans ?_) g2 r2 h2
      refine ⟨fun a o z => hF2 a o (e'.f a o z), ?_, fun a o z => ?_, fun a o z nz => by rw [hHH]; exact e'.kp a o z nz, fun a z => by rw [hHH]; exact e'.dm a z⟩
      · obtain ⟨β, eb, hb⟩ := e'.al
        rcases hal with z | z
        · exact ⟨β, by rw [z, eb], hb⟩
        · refine ⟨β ++ [p], by rw [z, eb, List.append_assoc], fun b hbm => ?_⟩
          rcases List.mem_append.mp hbm with y | y
          · exact hb b y
          · rw [List.mem_singleton.mp y]; exact hp
      · rcases hN2 a o z with y | y
        · exact e'.new a o y
        · subst y; exact .inr (.inl hp)
abbrev Bk (α : Type) := Shared → Hp → Addr → List (Str × Addr) → List Addr → α
theorem je_lc {elt tg iter : Expr} {ifs : List Expr} {scope : Scope} {own : List (Str × Nat)} {wi : TI} {g : Bk TG} {tt : Bk TT} {te : Bk TE} {I : TId} {G : TGd} {C : TB} {Te : TD} (Fin : List D → Sto → KD → Prop) (hf : FinOk Fin) (hc : X.calm = true) (hN : X.N.Nodup) (hi : JI X W tg iter wi I) (ok : BlkOk X.N X.env.scope scope own)
    (hg : ∀ (s : Shared) (H : Hp) (C : Addr) (cl : List (Str × Addr)) (fp : List Addr), JG (X.blk s H scope (compEnvC scope cl C X.env) fp) tg (g s H C cl fp) G) (hk : GK (own.map (·.2)) (g {} (fun _ => none) 0 [] [])) (ht : ∀ (s : Shared) (H : Hp) (C' : Addr) (cl : List (Str × Addr)) (fp : List Addr), JTs (X.blk s H scope (compEnvC scope cl C' X.env) fp) ifs (tt s H C' cl fp) C)
    (he : ∀ (s : Shared) (H : Hp) (C : Addr) (cl : List (Str × Addr)) (fp : List Addr), JE (X.blk s H scope (compEnvC scope cl C X.env) fp) (fun _ _ _ _ => False) elt (te s H C cl fp) Te) (hs : ∀ x, foldedSetIterable iter X.env x = pure x := by intro _; rfl)
    (eg : ∀ s H C cl fp, g s H C cl fp = g {} (fun _ => none) 0 [] [] := by intros; rfl) (et : ∀ s H C cl fp, tt s H C cl fp = tt {} (fun _ => none) 0 [] [] := by intros; rfl) (ee : ∀ s H C cl fp, te s H C cl fp = te {} (fun _ => none) 0 [] [] := by intros; rfl) :
    JE X W (.ListComp elt [⟨tg, iter, ifs, 0⟩] scope pos) (tLc wi (g {} (fun _ => none) 0 [] []) (tt {} (fun _ => none) 0 [] []) (te {} (fun _ => none) 0 [] []) (own.map (·.2))) (dLc I G C Te (own.map (·.2)) Fin) :=
  ⟨pe_lc hc hN hi.pi ok (fun s H C cl fp => eg s H C cl fp ▸ (hg s H C cl fp).pg) (fun s H C cl fp => et s H C cl fp ▸ (ht s H C cl fp).pts) (fun s H C cl fp => ee s H C cl fp ▸ (he s H C cl fp).pe) hs,
    sem_lc hi.sem (hg {} (fun _ => none) 0 [] []).sem hk (ht {} (fun _ => none) 0 [] []).sem (he {} (fun _ => none) 0 [] []).sem hf⟩
theorem js_setLc (i : Nat) {y : Str} {py spos : Pos} {elt tg iter : Expr} {ifs : List Expr} {scope : Scope} {own : List (Str × Nat)} {wi : TI} {g : Bk TG} {tt : Bk TT} {te : Bk TE} {I : TId} {G : TGd} {C : TB} {Te : TD} (Fin : List D → Sto → KD → Prop) (hf : FinOk Fin) (hc : X.calm = true) (hN : X.N.Nodup) (hi : JI X W tg iter wi I) (ok : BlkOk X.N X.env.scope scope own)
    (hg : ∀ (s : Shared) (H : Hp) (C : Addr) (cl : List (Str × Addr)) (fp : List Addr), JG (X.blk s H scope (compEnvC scope cl C X.env) fp) tg (g s H C cl fp) G) (hk : GK (own.map (·.2)) (g {} (fun _ => none) 0 [] [])) (ht : ∀ (s : Shared) (H : Hp) (C' : Addr) (cl : List (Str × Addr)) (fp : List Addr), JTs (X.blk s H scope (compEnvC scope cl C' X.env) fp) ifs (tt s H C' cl fp) C)
    (he : ∀ (s : Shared) (H : Hp) (C : Addr) (cl : List (Str × Addr)) (fp : List Addr), JE (X.blk s H scope (compEnvC scope cl C X.env) fp) (fun _ _ _ _ => False) elt (te s H C cl fp) Te)
    (hy : X.N[i]? = some y := by rfl) (hyl : X.env.scope.names.lookup y = some .local := by rfl)
    (hsw : swapsWith (.ListComp elt [⟨tg, iter, ifs, 0⟩] scope pos) (some (.Name y py)) spos.line X.env = pure true := by exact sw_true rfl rfl rfl (by decide +kernel)) (hs : ∀ x, foldedSetIterable iter X.env x = pure x := by intro _; rfl)
    (eg : ∀ s H C cl fp, g s H C cl fp = g {} (fun _ => none) 0 [] [] := by intros; rfl) (et : ∀ s H C cl fp, tt s H C cl fp = tt {} (fun _ => none) 0 [] [] := by intros; rfl) (ee : ∀ s H C cl fp, te s H C cl fp = te {} (fun _ => none) 0 [] [] := by intros; rfl) :
    JS X W (.Assign [.Name y py] (.ListComp elt [⟨tg, iter, ifs, 0⟩] scope pos) spos) (tAsg (tLc wi (g {} (fun _ => none) 0 [] []) (tt {} (fun _ => none) 0 [] []) (te {} (fun _ => none) 0 [] []) (own.map (·.2))) (gName i)) (sAsg (dLc I G C Te (own.map (·.2)) Fin) (nmG i)) :=
  ⟨ps_setLc hc hN hy hyl hsw hi.pi ok (fun s H C cl fp => eg s H C cl fp ▸ (hg s H C cl fp).pg) (fun s H C cl fp => et s H C cl fp ▸ (ht s H C cl fp).pts) (fun s H C cl fp => ee s H C cl fp ▸ (he s H C cl fp).pe) hs,
    sem_asg (sem_lc hi.sem (hg {} (fun _ => none) 0 [] []).sem hk (ht {} (fun _ => none) 0 [] []).sem (he {} (fun _ => none) 0 [] []).sem hf) (sem_nmG i)⟩
end
end DL
namespace DL
open PySem PySem.Spec PyProof.Rows L2
/-- the items of a list; of any list that may be read -/
def asL (S : Sto) : D → Option (List D)
  | .lst ds => some ds
  | .own h => match S[h]? with
    | some (.lst ds) => some ds
    | _ => none
  | _ => none
def asQ (S : Sto) : D → Option (List D)
  | .lst ds => some ds
  | .sq ds => some ds
  | .own h => match S[h]? with
    | some (.lst ds) => some ds
    | _ => none
  | _ => none
section
variable {K : PySem.W.Frag} {w : Hs} {S : Sto}
theorem asL_own {h : Nat} {ds : List D} (e : asL S (.own h) = some ds) : S[h]? = some (.lst ds) := by
  have e2 : (match S[h]? with
    | some (.lst ds) => some ds
    | _ => none) = some ds := e
  cases q : S[h]? with
  | none => rw [q] at e2; cases e2
  | some c =>
    rw [q] at e2
    cases c with
    | lst es => rw [Option.some.inj e2]
    | ins _ _ => cases e2
    | dct _ => cases e2
    | dck _ => cases e2
    | lck _ _ _ => cases e2
    | gone => cases e2
theorem own_at (g : Good K w S) {h : Nat} {v : V} {ds : List D} (r : Rv K w v (.own h)) (e : S[h]? = some (.lst ds)) : ∃ a xs, v = .ref a ∧ w.al[h]? = some a ∧ w.H a = some (.lst xs) ∧ Ra K w xs ds := by
  cases r with
  | @own h a q =>
    obtain ⟨_, xs, h2, h3⟩ := g.cell h a _ q e
    exact ⟨a, xs, rfl, q, h2, h3⟩
theorem asL_at (g : Good K w S) {v : V} {d : D} {ds : List D} (r : Rv K w v d) (e : asL S d = some ds) : ∃ a xs, v = .ref a ∧ w.H a = some (.lst xs) ∧ Ra K w xs ds := by
  cases d with
  | lst es =>
    have e2 : es = ds := Option.some.inj e
    subst e2
    cases r with
    | lst h1 h2 => exact ⟨_, _, rfl, g.sub _ _ h1, h2⟩
  | own h =>
    obtain ⟨a, xs, h1, _, h2, h3⟩ := own_at g r (asL_own e)
    exact ⟨a, xs, h1, h2, h3⟩
  | _ => cases e
theorem asQ_at (g : Good K w S) {v : V} {d : D} {ds : List D} (r : Rv K w v d) (e : asQ S d = some ds) : ∃ a xs, v = .ref a ∧ SqL K w.H a xs ∧ Ra K w xs ds := by
  cases d with
  | sq es =>
    have e2 : es = ds := Option.some.inj e
    subst e2
    cases r with
    | sq h1 h2 => exact ⟨_, _, rfl, sameSql g.sub h1, h2⟩
  | lst es =>
    obtain ⟨a, xs, h1, h2, h3⟩ := asL_at g (ds := ds) r e
    exact ⟨a, xs, h1, .inl (.inl h2), h3⟩
  | own h =>
    obtain ⟨a, xs, h1, h2, h3⟩ := asL_at g (ds := ds) r e
    exact ⟨a, xs, h1, .inl (.inl h2), h3⟩
  | _ => cases e
theorem ra_ints : ∀ {xs : List V} {ns : List Int}, Ra K w xs (ns.map D.int) → xs = ns.map V.int
  | _, [], h => by cases h; rfl
  | _, n :: ns, h => by
    cases h with
    | cons h1 h2 => rw [rv_int h1, ra_ints h2]; rfl
theorem ra_bls : ∀ {xs : List V} {ns : List Bool}, Ra K w xs (ns.map D.bl) → xs = ns.map V.bl
  | _, [], h => by cases h; rfl
  | _, n :: ns, h => by
    cases h with
    | cons h1 h2 => rw [rv_bl h1, ra_bls h2]; rfl
end
def iOp (C : Int → Int → Prop) (g : Int → Int → D) (x y : D) (S : Sto) (Φ : KD) : Prop := match x, y with
  | .int i, .int j => C i j ∧ Φ S (g i j)
  | _, _ => False
theorem opd_i {K : PySem.W.Frag} {C : Int → Int → Prop} {g : Int → Int → D} {gv : Int → Int → V} (hg : ∀ i j (w : Hs), Rv K w (gv i j) (g i j)) : OpD K (rI C gv) (iOp C g) := fun w S x y u v Φ Q g0 r1 r2 h q => by
  cases u with
  | int i =>
    cases v with
    | int j => exact ⟨i, j, rv_int r1, rv_int r2, h.1, q _ _ w S (Ext.refl w) g0 (hg i j w) h.2⟩
    | _ => exact h.elim
  | _ => cases v <;> exact h.elim
def iOp0 (g : Int → Int → D) (x y : D) (S : Sto) (Φ : KD) : Prop := match x, y with
  | .int i, .int j => Φ S (g i j)
  | _, _ => False
theorem opd_i0 {K : PySem.W.Frag} {g : Int → Int → D} {gv : Int → Int → V} (hg : ∀ i j (w : Hs), Rv K w (gv i j) (g i j)) : OpD K (rI0 gv) (iOp0 g) := fun w S x y u v Φ Q g0 r1 r2 h q => by
  cases u with
  | int i =>
    cases v with
    | int j => exact ⟨i, j, rv_int r1, rv_int r2, q _ _ w S (Ext.refl w) g0 (hg i j w) h⟩
    | _ => exact h.elim
  | _ => cases v <;> exact h.elim
/-- + of ints, texts, lists -/
def dAdd (x y : D) (S : Sto) (Φ : KD) : Prop := match x, y with
  | .int i, .int j => Φ S (.int (i + j))
  | .str a, .str b => a.length + b.length ≤ sizeLine ∧ Φ S (.str (a ++ b))
  | x, y => ∃ xs ys, asL S x = some xs ∧ asL S y = some ys ∧ xs.length + ys.length ≤ sizeLine ∧ Φ S (.lst (xs ++ ys))
def rAddA : R2 := fun x y H Q => rI0 (fun i j => .int (i + j)) x y H Q ∨ (∃ i j, x = .str i ∧ y = .str j ∧ i.length + j.length ≤ sizeLine ∧ Q (.str (i ++ j)) H) ∨ rCat x y H Q
theorem op_addA {X : Cx} : OpR X (binaryOp .Add) rAddA := op_add.or (op_add_str.or op_cat)
theorem add_seq {K : PySem.W.Frag} {w : Hs} {S : Sto} {x y : V} {u v : D} {Φ : KD} {Q : VK} (g : Good K w S) (r1 : Rv K w x u) (r2 : Rv K w y v) (h : ∃ xs ys, asL S u = some xs ∧ asL S v = some ys ∧ xs.length + ys.length ≤ sizeLine ∧ Φ S (.lst (xs ++ ys))) (q : OkD K w Φ Q) : rAddA x y w.H Q := by
  obtain ⟨xs, ys, e1, e2, hl, hΦ⟩ := h
  obtain ⟨a, us, rfl, h1, h2⟩ := asL_at g r1 e1
  obtain ⟨b, vs, rfl, h3, h4⟩ := asL_at g r2 e2
  exact .inr (.inr ⟨a, b, us, vs, rfl, rfl, h1, h3, by rw [h2.length, h4.length]; exact hl, new_lst g q (h2.append h4) hΦ⟩)
theorem opd_add {K : PySem.W.Frag} : OpD K rAddA dAdd := fun w S x y u v Φ Q g r1 r2 h q => by
  cases u with
  | int i =>
    cases v with
    | int j => exact .inl ⟨i, j, rv_int r1, rv_int r2, q _ _ w S (Ext.refl w) g (.int _) h⟩
    | _ => exact add_seq g r1 r2 h q
  | str i =>
    cases v with
    | str j => exact .inr (.inl ⟨i, j, rv_str r1, rv_str r2, h.1, q _ _ w S (Ext.refl w) g (.str _) h.2⟩)
    | _ => exact add_seq g r1 r2 h q
  | _ => cases v <;> exact add_seq g r1 r2 h q
/-- * of ints, a list by an int -/
def CMulA (i j : Int) : Prop := CMul i j ∨ CMulW i j
def dMul (x y : D) (S : Sto) (Φ : KD) : Prop := match x, y with
  | .int i, .int j => CMulA i j ∧ Φ S (.int (i * j))
  | x, .int k => ∃ xs, asL S x = some xs ∧ -(2 ^ 63) ≤ k ∧ k < 2 ^ 63 ∧ xs.length * k.toNat ≤ sizeLine ∧ Φ S (.lst ((List.replicate k.toNat xs).flatten))
  | _, _ => False
def rMulA : R2 := fun x y H Q => rI CMul (fun i j => .int (i * j)) x y H Q ∨ rI CMulW (fun i j => .int (i * j)) x y H Q ∨ rRep x y H Q
theorem op_mulA {X : Cx} : OpR X (binaryOp .Mult) rMulA := op_mul.or (op_mulW.or op_rep)
theorem ra_rep {K : PySem.W.Frag} {w : Hs} {vs : List V} {ds : List D} (r : Ra K w vs ds) : ∀ k : Nat, Ra K w (List.replicate k vs).flatten (List.replicate k ds).flatten
  | 0 => .nil
  | k + 1 => by
    rw [List.replicate_succ, List.replicate_succ, List.flatten_cons, List.flatten_cons]
    exact r.append (ra_rep r k)
theorem mul_seq {K : PySem.W.Frag} {w : Hs} {S : Sto} {x y : V} {u : D} {k : Int} {Φ : KD} {Q : VK} (g : Good K w S) (r1 : Rv K w x u) (r2 : Rv K w y (.int k)) (h : ∃ xs, asL S u = some xs ∧ -(2 ^ 63) ≤ k ∧ k < 2 ^ 63 ∧ xs.length * k.toNat ≤ sizeLine ∧ Φ S (.lst ((List.replicate k.toNat xs).flatten))) (q : OkD K w Φ Q) : rMulA x y w.H Q := by
  obtain ⟨xs, e1, hl1, hl2, hl3, hΦ⟩ := h
  obtain ⟨a, us, rfl, h1, h2⟩ := asL_at g r1 e1
  exact .inr (.inr ⟨a, k, us, rfl, rv_int r2, h1, hl1, hl2, by rw [h2.length]; exact hl3, new_lst g q (ra_rep h2 _) hΦ⟩)
theorem opd_mul {K : PySem.W.Frag} : OpD K rMulA dMul := fun w S x y u v Φ Q g r1 r2 h q => by
  cases v with
  | int j =>
    cases u with
    | int i =>
      have q2 := q (.int (i * j)) (.int (i * j)) w S (Ext.refl w) g (.int _) h.2
      rcases h.1 with c | c
      · exact .inl ⟨i, j, rv_int r1, rv_int r2, c, q2⟩
      · exact .inr (.inl ⟨i, j, rv_int r1, rv_int r2, c, q2⟩)
    | _ => exact mul_seq g r1 r2 h q
  | _ => cases u <;> exact h.elim
def dSub := iOp0 fun i j => .int (i - j)
theorem opd_sub {K : PySem.W.Frag} : OpD K (rI0 fun i j => .int (i - j)) dSub := opd_i0 fun _ _ _ => .int _
def dMod := iOp (fun _ j => 0 < j) fun i j => .int (i % j)
theorem opd_mod {K : PySem.W.Frag} : OpD K (rI (fun _ j => 0 < j) fun i j => .int (i % j)) dMod := opd_i fun _ _ _ => .int _
def dDiv := iOp CDivW fun i j => .int (i / j)
theorem opd_div {K : PySem.W.Frag} : OpD K (rI CDivW fun i j => .int (i / j)) dDiv := opd_i fun _ _ _ => .int _
/-- ** of an int of a few thousand bits by a small one -/
def CPowW (i j : Int) : Prop := 0 ≤ j ∧ j ≤ 1000 ∧ i.natAbs < 2 ^ 100000
theorem op_powW {X : Cx} : OpR X (binaryOp .Pow) (rI CPowW fun i j => .int (i ^ j.toNat)) := opI fun i j _ _ _ _ _ hc q => by
  obtain ⟨h0, h1, h2⟩ := hc
  refine PyProof.Rows.pow_int h0 ?_ q
  have b : Builtin.Int.intBits i ≤ 100000 := by
    unfold Builtin.Int.intBits
    split
    · omega
    · have := PySem.Flt.log2_lt_of (by decide : 0 < 100000) h2
      omega
  have e : (2 : Int) ^ 27 = 134217728 := by decide
  rw [e]
  have h3 : (Builtin.Int.intBits i : Int) ≤ 100000 := by omega
  have h4 : (Builtin.Int.intBits i : Int) * j ≤ 100000 * 1000 := Int.mul_le_mul h3 h1 h0 (by decide)
  omega
def dPow := iOp CPowW fun i j => .int (i ^ j.toNat)
theorem opd_pow {K : PySem.W.Frag} : OpD K (rI CPowW fun i j => .int (i ^ j.toNat)) dPow := opd_i fun _ _ _ => .int _
def dLt := iOp0 fun i j => .bl (decide (i < j))
def dLe := iOp0 fun i j => .bl (decide (i ≤ j))
def dGt := iOp0 fun i j => .bl (decide (j < i))
def dGe := iOp0 fun i j => .bl (decide (j ≤ i))
theorem opd_lt {K : PySem.W.Frag} : OpD K (rI0 fun i j => .bl (decide (i < j))) dLt := opd_i0 fun _ _ _ => .bl _
theorem opd_le {K : PySem.W.Frag} : OpD K (rI0 fun i j => .bl (decide (i ≤ j))) dLe := opd_i0 fun _ _ _ => .bl _
theorem opd_gt {K : PySem.W.Frag} : OpD K (rI0 fun i j => .bl (decide (j < i))) dGt := opd_i0 fun _ _ _ => .bl _
theorem opd_ge {K : PySem.W.Frag} : OpD K (rI0 fun i j => .bl (decide (j ≤ i))) dGe := opd_i0 fun _ _ _ => .bl _
def uNeg (x : D) (S : Sto) (Φ : KD) : Prop := match x with
  | .int i => Φ S (.int (-i))
  | _ => False
def dUn (f : D → Sto → KD → Prop) (T : TD) : TD := fun Γ S Φ Ψ => T Γ S (fun S1 d => f d S1 Φ) Ψ
theorem je_neg {X : Cx} {W : WX} {a : Expr} {pos : Pos} {ta : TE} {Ta : TD} (ha : JE X W a ta Ta) : JE X W (.UnaryOp .USub a pos) (tUn (rU fun i => .int (-i)) ta) (dUn uNeg Ta) := ⟨pe_un un_neg ha.pe, fun Γ S Φ Ψ σ w g sl h hx Q q =>
  ha.sem Γ S _ Ψ σ w g sl h hx _ fun v d w1 S1 e1 g1 r1 h1 => by
    cases d with
    | int i => exact ⟨i, rv_int r1, q _ _ w1 S1 e1 g1 (.int _) h1⟩
    | _ => exact h1.elim⟩
mutual
inductive PyR (S : Sto) : D → PyData → Prop
  | non : PyR S .non .none
  | bl (b : Bool) : PyR S (.bl b) (.bool b)
  | int (i : Int) : PyR S (.int i) (.int i)
  | str (x : Str) : PyR S (.str x) (.str x)
  | lst {ds : List D} {ps : List PyData} : PyRA S ds ps → PyR S (.lst ds) (.list ps)
  | sq {ds : List D} {ps : List PyData} : PyRA S ds ps → PyR S (.sq ds) (.list ps)
  | tup {ds : List D} {ps : List PyData} : PyRA S ds ps → PyR S (.tup ds) (.tuple ps)
  | own {h : Nat} {ds : List D} {ps : List PyData} : S[h]? = some (.lst ds) → PyRA S ds ps → PyR S (.own h) (.list ps)
inductive PyRA (S : Sto) : List D → List PyData → Prop
  | nil : PyRA S [] []
  | cons {d : D} {ds : List D} {p : PyData} {ps : List PyData} : PyR S d p → PyRA S ds ps → PyRA S (d :: ds) (p :: ps)
end
section
variable {K : PySem.W.Frag} {w : Hs} {S : Sto}
mutual
theorem dp_of (g : Good K w S) : ∀ (p : PyData) (d : D) (v : V), PyR S d p → Rv K w v d → Dp K w.H v p
  | .none, _, _, h, r => by cases h; cases r; exact .non
  | .bool _, _, _, h, r => by cases h; cases r; exact .bl _
  | .int _, _, _, h, r => by cases h; cases r; exact .int _
  | .str _, _, _, h, r => by cases h; cases r; exact .str _
  | .list ps, _, _, h, r => by
    cases h with
    | lst h1 =>
      cases r with
      | lst h2 h3 => exact .lst (.inl (.inl (g.sub _ _ h2))) (dpa_of g ps _ _ h1 h3)
    | sq h1 =>
      cases r with
      | sq h2 h3 => exact .lst (sameSql g.sub h2) (dpa_of g ps _ _ h1 h3)
    | own h1 h2 =>
      obtain ⟨a, xs, rfl, _, h3, h4⟩ := own_at g r h1
      exact .lst (.inl (.inl h3)) (dpa_of g ps _ _ h2 h4)
  | .tuple ps, _, _, h, r => by
    cases h with
    | tup h1 =>
      cases r with
      | tup h2 h3 => exact .tup (sameSqt g.sub h2) (dpa_of g ps _ _ h1 h3)
  | .dict _, _, _, h, _ => by cases h
theorem dpa_of (g : Good K w S) : ∀ (ps : List PyData) (ds : List D) (vs : List V), PyRA S ds ps → Ra K w vs ds → DpAll K w.H vs ps
  | [], _, _, h, r => by cases h; cases r; exact .nil
  | p :: ps, _, _, h, r => by
    cases h with
    | cons h1 h2 =>
      cases r with
      | cons r1 r2 => exact .cons (dp_of g p _ _ h1 r1) (dpa_of g ps _ _ h2 r2)
end
end
def dEq (x y : D) (S : Sto) (Φ : KD) : Prop := ∃ p q, PyR S x p ∧ PyR S y q ∧ SeqAt.shaped p = true ∧ SeqAt.shaped q = true ∧ Φ S (.bl (PyData.eqv p q))
def dNe (x y : D) (S : Sto) (Φ : KD) : Prop := ∃ p q, PyR S x p ∧ PyR S y q ∧ SeqAt.shaped p = true ∧ SeqAt.shaped q = true ∧ Φ S (.bl (!PyData.eqv p q))
theorem opd_eq {K : PySem.W.Frag} : OpD K (rEqD K) dEq := fun w S x y u v Φ Q g r1 r2 ⟨p, p2, h1, h2, h3, h4, h5⟩ q => ⟨p, p2, dp_of g p u x h1 r1, dp_of g p2 v y h2 r2, h3, h4, q _ _ w S (Ext.refl w) g (.bl _) h5⟩
theorem opd_ne {K : PySem.W.Frag} : OpD K (rNeD K) dNe := fun w S x y u v Φ Q g r1 r2 ⟨p, p2, h1, h2, h3, h4, h5⟩ q => ⟨p, p2, dp_of g p u x h1 r1, dp_of g p2 v y h2 r2, h3, h4, q _ _ w S (Ext.refl w) g (.bl _) h5⟩
/-- is None -/
def isNon : D → Bool
  | .non => true
  | _ => false
theorem dec_non {K : PySem.W.Frag} {w : Hs} {v : V} {d : D} (r : Rv K w v d) : decide (v = .non) = isNon d := by
  cases r <;> rfl
def dIsN (x y : D) (S : Sto) (Φ : KD) : Prop := match y with
  | .non => Φ S (.bl (isNon x))
  | _ => False
def dNotN (x y : D) (S : Sto) (Φ : KD) : Prop := match y with
  | .non => Φ S (.bl (!isNon x))
  | _ => False
theorem opd_isN {K : PySem.W.Frag} : OpD K (fun x y H Q => y = .non ∧ Q (.bl (decide (x = .non))) H) dIsN := fun w S x y u v Φ Q g r1 r2 h q => by
  cases v with
  | non => exact ⟨rv_non r2, by rw [dec_non r1]; exact q _ _ w S (Ext.refl w) g (.bl _) h⟩
  | _ => exact h.elim
theorem opd_notN {K : PySem.W.Frag} : OpD K (fun x y H Q => y = .non ∧ Q (.bl (!decide (x = .non))) H) dNotN := fun w S x y u v Φ Q g r1 r2 h q => by
  cases v with
  | non => exact ⟨rv_non r2, by rw [dec_non r1]; exact q _ _ w S (Ext.refl w) g (.bl _) h⟩
  | _ => exact h.elim
/-- in, not in: a list or tuple of flat things -/
def flatD : D → Bool
  | .non => true
  | .bl _ => true
  | .int _ => true
  | .str _ => true
  | _ => false
def eqD : D → D → Bool
  | .non, .non => true
  | .bl a, .bl b => a == b
  | .bl a, .int b => (if a then 1 else 0) == b
  | .int a, .bl b => a == (if b then 1 else 0)
  | .int a, .int b => a == b
  | .str a, .str b => a == b
  | _, _ => false
def inD (x : D) (xs : List D) : Bool := xs.any fun y => eqD y x
def asS (S : Sto) : D → Option (List D)
  | .tup ds => some ds
  | d => asQ S d
theorem flat_of {K : PySem.W.Frag} {w : Hs} {v : V} {d : D} (r : Rv K w v d) (h : flatD d = true) : flatV v = true := by
  cases d <;> first | (cases r; rfl) | cases h
theorem eq_of {K : PySem.W.Frag} {w : Hs} {v u : V} {d e : D} (r : Rv K w v d) (q : Rv K w u e) (h : flatD d = true) (h2 : flatD e = true) : eqV v u = eqD d e := by
  cases d with
  | non => cases e <;> (first | (cases h2; done) | (cases r; cases q; rfl))
  | bl _ => cases e <;> (first | (cases h2; done) | (cases r; cases q; rfl))
  | int _ => cases e <;> (first | (cases h2; done) | (cases r; cases q; rfl))
  | str _ => cases e <;> (first | (cases h2; done) | (cases r; cases q; rfl))
  | _ => cases h
theorem flats_of {K : PySem.W.Frag} {w : Hs} : ∀ {vs : List V} {ds : List D}, Ra K w vs ds → ds.all flatD = true → vs.all flatV = true
  | _, _, .nil, _ => rfl
  | _, _, .cons r t, h => by
    rw [List.all_cons, Bool.and_eq_true] at h ⊢
    exact ⟨flat_of r h.1, flats_of t h.2⟩
theorem in_of {K : PySem.W.Frag} {w : Hs} {x : V} {dx : D} (rx : Rv K w x dx) (hx : flatD dx = true) : ∀ {vs : List V} {ds : List D}, Ra K w vs ds → ds.all flatD = true → inV x vs = inD dx ds
  | _, _, .nil, _ => rfl
  | _, _, .cons r t, h => by
    rw [List.all_cons, Bool.and_eq_true] at h
    have ih := in_of rx hx t h.2
    unfold inV inD at ih ⊢
    rw [List.any_cons, List.any_cons, ih, eq_of r rx h.1 hx]
theorem asS_at {K : PySem.W.Frag} {w : Hs} {S : Sto} (g : Good K w S) {v : V} {d : D} {ds : List D} (r : Rv K w v d) (e : asS S d = some ds) : ∃ a xs, v = .ref a ∧ (SqL K w.H a xs ∨ SqT K w.H a xs) ∧ Ra K w xs ds := by
  cases d with
  | tup es =>
    have e2 : es = ds := Option.some.inj e
    subst e2
    cases r with
    | tup h1 h2 => exact ⟨_, _, rfl, .inr (sameSqt g.sub h1), h2⟩
  | sq es =>
    obtain ⟨a, xs, h1, h2, h3⟩ := asQ_at g (ds := ds) r e
    exact ⟨a, xs, h1, .inl h2, h3⟩
  | lst es =>
    obtain ⟨a, xs, h1, h2, h3⟩ := asQ_at g (ds := ds) r e
    exact ⟨a, xs, h1, .inl h2, h3⟩
  | own h =>
    obtain ⟨a, xs, h1, h2, h3⟩ := asQ_at g (ds := ds) r e
    exact ⟨a, xs, h1, .inl h2, h3⟩
  | _ => cases e
def dIn (neg : Bool) (x y : D) (S : Sto) (Φ : KD) : Prop := ∃ xs, asS S y = some xs ∧ flatD x = true ∧ xs.all flatD = true ∧ Φ S (.bl (if neg then !inD x xs else inD x xs))
theorem opd_in {K : PySem.W.Frag} {neg : Bool} : OpD K (rIn K neg) (dIn neg) := fun w S x y u v Φ Q g r1 r2 ⟨ds, e, h1, h2, h3⟩ q => by
  obtain ⟨a, xs, rfl, hs, ra⟩ := asS_at g r2 e
  exact ⟨a, xs, rfl, hs, flat_of r1 h1, flats_of ra h2, by rw [in_of r1 h1 ra h2]; exact q _ _ w S (Ext.refl w) g (.bl _) h3⟩
def dIx (x y : D) (S : Sto) (Φ : KD) : Prop := match y with
  | .int i => (match x with
    | .str z => z.length ≤ sizeLine ∧ ∃ c, atI z.cps.toList i = some c ∧ Φ S (.str ⟨#[c]⟩)
    | x => ∃ ds d, asS S x = some ds ∧ atI ds i = some d ∧ Φ S d)
  | _ => False
theorem atI_of {K : PySem.W.Frag} {w : Hs} {vs : List V} {ds : List D} {i : Int} {d : D} (r : Ra K w vs ds) (h : atI ds i = some d) : ∃ v, atI vs i = some v ∧ Rv K w v d := by
  unfold atI at h ⊢
  rw [r.length]
  cases q : ixN ds.length i with
  | none => rw [q] at h; cases h
  | some j =>
    rw [q] at h
    exact r.get h
theorem ix_seqD {K : PySem.W.Frag} {w : Hs} {S : Sto} {x y : V} {u : D} {i : Int} {Φ : KD} {Q : VK} (g : Good K w S) (r1 : Rv K w x u) (r2 : Rv K w y (.int i)) (h : ∃ ds d, asS S u = some ds ∧ atI ds i = some d ∧ Φ S d) (q : OkD K w Φ Q) : rIx K x y w.H Q := by
  obtain ⟨ds, d, e, h1, h2⟩ := h
  obtain ⟨a, xs, rfl, hs, ra⟩ := asS_at g r1 e
  obtain ⟨v, h3, r3⟩ := atI_of ra h1
  have qq := q v d w S (Ext.refl w) g r3 h2
  rcases hs with hs | hs
  · exact .inl ⟨a, xs, i, v, rfl, rv_int r2, hs, h3, qq⟩
  · exact .inr (.inl ⟨a, xs, i, v, rfl, rv_int r2, hs, h3, qq⟩)
theorem opd_ix {K : PySem.W.Frag} : OpD K (rIx K) dIx := fun w S x y u v Φ Q g r1 r2 h q => by
  cases v with
  | int i =>
    cases u with
    | str z =>
      obtain ⟨h1, c, h2, h3⟩ := h
      exact .inr (.inr ⟨z, i, c, rv_str r1, rv_int r2, h1, h2, q _ _ w S (Ext.refl w) g (.str _) h3⟩)
    | _ => exact ix_seqD g r1 r2 h q
  | _ => cases u <;> exact h.elim
/-- the items of a slice -/
def cutD {α : Type} (xs : List α) (lo hi : Option Int) : List α := (xs.drop (HT.sIx xs.length 0 lo)).take (HT.sIx xs.length xs.length hi - HT.sIx xs.length 0 lo)
theorem ra_cut {K : PySem.W.Frag} {w : Hs} {vs : List V} {ds : List D} (r : Ra K w vs ds) (lo hi : Option Int) : Ra K w (cutV vs lo hi) (cutD ds lo hi) := by
  unfold cutV cutD
  rw [r.length]
  exact (r.drop _).take _
def dSlL (d : D) (lo hi : Option Int) (S : Sto) (Φ : KD) : Prop := ∃ ds, asQ S d = some ds ∧ Φ S (.lst (cutD ds lo hi))
theorem sld_l {K : PySem.W.Frag} : SlD K (rSlL K) dSlL := fun w S v d lo hi Φ Q g r ⟨ds, e, h⟩ q => by
  obtain ⟨a, xs, rfl, h1, h2⟩ := asQ_at g r e
  exact ⟨a, xs, rfl, h1, new_lst g q (ra_cut h2 lo hi) h⟩
def rLen (K : PySem.W.Frag) : List V → Hp → VK → Prop := fun xs H Q => (∃ p ys, xs = [.ref p] ∧ (SqL K H p ys ∨ SqT K H p ys) ∧ Q (.int ys.length) H) ∨ ∃ z, xs = [.str z] ∧ z.length ≤ sizeLine ∧ Q (.int z.length) H
theorem call_lenA {X : Cx} : CallR X (.builtin "len") (rLen X.K) := call_len_seq.or call_len_str
def cLen (ds : List D) (S : Sto) (Φ : KD) : Prop := match ds with
  | [.str z] => z.length ≤ sizeLine ∧ Φ S (.int z.length)
  | [d] => ∃ xs, asS S d = some xs ∧ Φ S (.int xs.length)
  | _ => False
theorem len_seqD {K : PySem.W.Frag} {w : Hs} {S : Sto} {vs : List V} {d : D} {Φ : KD} {Q : VK} (g : Good K w S) (r : Ra K w vs [d]) (h : ∃ xs, asS S d = some xs ∧ Φ S (.int xs.length)) (q : OkD K w Φ Q) : rLen K vs w.H Q := by
  obtain ⟨xs, e, h⟩ := h
  cases r with
  | cons r1 r2 =>
    cases r2
    obtain ⟨a, ys, rfl, hs, ra⟩ := asS_at g r1 e
    exact .inl ⟨a, ys, rfl, hs, by rw [ra.length]; exact q _ _ w S (Ext.refl w) g (.int _) h⟩
theorem cd_len {K : PySem.W.Frag} : CallD K (rLen K) cLen := fun w S vs ds Φ Q g r h q => by
  cases ds with
  | nil => exact h.elim
  | cons d rest =>
    cases rest with
    | cons e t => cases d <;> exact h.elim
    | nil =>
      cases d with
      | str z =>
        cases r with
        | cons r1 r2 =>
          cases r2
          exact .inr ⟨z, by rw [rv_str r1], h.1, q _ _ w S (Ext.refl w) g (.int _) h.2⟩
      | _ => exact len_seqD g r h q
def cAbs (ds : List D) (S : Sto) (Φ : KD) : Prop := match ds with
  | [.int i] => Φ S (.int (if i < 0 then -i else i))
  | _ => False
def c2I (f : Int → Int → D) (ds : List D) (S : Sto) (Φ : KD) : Prop := match ds with
  | [.int i, .int j] => Φ S (f i j)
  | _ => False
theorem cd_abs {K : PySem.W.Frag} : CallD K (fun xs H Q => ∃ i, xs = [.int i] ∧ Q (.int (if i < 0 then -i else i)) H) cAbs := fun w S vs ds Φ Q g r h q => by
  cases ds with
  | nil => exact h.elim
  | cons d t =>
    cases t with
    | cons _ _ => cases d <;> exact h.elim
    | nil =>
      cases d with
      | int i =>
        cases r with
        | cons r1 r2 => cases r2; exact ⟨i, by rw [rv_int r1], q _ _ w S (Ext.refl w) g (.int _) h⟩
      | _ => exact h.elim
theorem cd_2I {K : PySem.W.Frag} {f : Int → Int → D} {fv : Int → Int → V} (hf : ∀ i j (w : Hs), Rv K w (fv i j) (f i j)) : CallD K (fun xs H Q => ∃ i j, xs = [.int i, .int j] ∧ Q (fv i j) H) (c2I f) := fun w S vs ds Φ Q g r h q => by
  cases ds with
  | nil => exact h.elim
  | cons d t =>
    cases t with
    | nil => cases d <;> exact h.elim
    | cons e t2 =>
      cases t2 with
      | cons _ _ => cases d <;> cases e <;> exact h.elim
      | nil =>
        cases d with
        | int i =>
          cases e with
          | int j =>
            cases r with
            | cons r1 r2 =>
              cases r2 with
              | cons r3 r4 => cases r4; exact ⟨i, j, by rw [rv_int r1, rv_int r3], q _ _ w S (Ext.refl w) g (hf i j w) h⟩
          | _ => exact h.elim
        | _ => cases e <;> exact h.elim
def cMax2 := c2I fun i j => .int (if j > i then j else i)
def cMin2 := c2I fun i j => .int (if j < i then j else i)
theorem cd_max2 {K : PySem.W.Frag} : CallD K (fun xs H Q => ∃ i j, xs = [.int i, .int j] ∧ Q (.int (if j > i then j else i)) H) cMax2 := cd_2I (fv := fun i j => .int (if j > i then j else i)) fun _ _ _ => .int _
theorem cd_min2 {K : PySem.W.Frag} : CallD K (fun xs H Q => ∃ i j, xs = [.int i, .int j] ∧ Q (.int (if j < i then j else i)) H) cMin2 := cd_2I (fv := fun i j => .int (if j < i then j else i)) fun _ _ _ => .int _
def cInt (ds : List D) (S : Sto) (Φ : KD) : Prop := match ds with
  | [.int i] => Φ S (.int i)
  | [.bl k] => Φ S (.int (if k then 1 else 0))
  | _ => False
/-- list(x): a new list, frozen or a cell -/
def cList (ds : List D) (S : Sto) (Φ : KD) : Prop := match ds with
  | [d] => ∃ xs, asS S d = some xs ∧ Φ S (.lst xs)
  | _ => False
def cListO (ds : List D) (S : Sto) (Φ : KD) : Prop := match ds with
  | [d] => ∃ xs, asS S d = some xs ∧ Φ (S ++ [.lst xs]) (.own S.length)
  | _ => False
theorem cd_list {K : PySem.W.Frag} : CallD K (fun xs H Q => ∃ p ys, xs = [.ref p] ∧ (SqL K H p ys ∨ SqT K H p ys) ∧ ∀ l, H l = none → Q (.ref l) (upd H l (.lst ys))) cList := fun w S vs ds Φ Q g r h q => by
  cases ds with
  | nil => exact h.elim
  | cons d t =>
    cases t with
    | cons _ _ => exact h.elim
    | nil =>
      obtain ⟨xs, e, h⟩ := h
      cases r with
      | cons r1 r2 =>
        cases r2
        obtain ⟨a, ys, rfl, hs, ra⟩ := asS_at g r1 e
        exact ⟨a, ys, rfl, hs, new_lst g q ra h⟩
def cAll (ds : List D) (S : Sto) (Φ : KD) : Prop := match ds with
  | [d] => ∃ bs : List Bool, asQ S d = some (bs.map D.bl) ∧ Φ S (.bl (bs.all id))
  | _ => False
def cSum (ds : List D) (S : Sto) (Φ : KD) : Prop := match ds with
  | [d] => ∃ ns : List Int, asQ S d = some (ns.map D.int) ∧ Φ S (.int ns.sum)
  | _ => False
def cMax (ds : List D) (S : Sto) (Φ : KD) : Prop := match ds with
  | [d] => ∃ ns : List Int, asQ S d = some (ns.map D.int) ∧ 0 < ns.length ∧ ∀ m, m ∈ ns → (∀ y, y ∈ ns → y ≤ m) → Φ S (.int m)
  | _ => False
theorem one_of {K : PySem.W.Frag} {w : Hs} {vs : List V} {d : D} (r : Ra K w vs [d]) : ∃ v, vs = [v] ∧ Rv K w v d := by
  cases r with
  | cons r1 r2 => cases r2; exact ⟨_, rfl, r1⟩
theorem cd_all {K : PySem.W.Frag} : CallD K (rAll K) cAll := fun w S vs ds Φ Q g r h q => by
  cases ds with
  | nil => exact h.elim
  | cons d t =>
    cases t with
    | cons _ _ => exact h.elim
    | nil =>
      obtain ⟨bs, e, h⟩ := h
      obtain ⟨v, rfl, r1⟩ := one_of r
      obtain ⟨a, ys, rfl, hs, ra⟩ := asQ_at g r1 e
      rw [ra_bls ra] at hs
      exact ⟨a, bs, rfl, hs, q _ _ w S (Ext.refl w) g (.bl _) h⟩
theorem cd_sum {K : PySem.W.Frag} : CallD K (rSum K) cSum := fun w S vs ds Φ Q g r h q => by
  cases ds with
  | nil => exact h.elim
  | cons d t =>
    cases t with
    | cons _ _ => exact h.elim
    | nil =>
      obtain ⟨bs, e, h⟩ := h
      obtain ⟨v, rfl, r1⟩ := one_of r
      obtain ⟨a, ys, rfl, hs, ra⟩ := asQ_at g r1 e
      rw [ra_ints ra] at hs
      exact ⟨a, bs, rfl, hs, q _ _ w S (Ext.refl w) g (.int _) h⟩
theorem cd_max {K : PySem.W.Frag} : CallD K (rMax K) cMax := fun w S vs ds Φ Q g r h q => by
  cases ds with
  | nil => exact h.elim
  | cons d t =>
    cases t with
    | cons _ _ => exact h.elim
    | nil =>
      obtain ⟨bs, e, h0, h⟩ := h
      obtain ⟨v, rfl, r1⟩ := one_of r
      obtain ⟨a, ys, rfl, hs, ra⟩ := asQ_at g r1 e
      rw [ra_ints ra] at hs
      exact ⟨a, bs, rfl, hs, h0, fun m h1 h2 => q _ _ w S (Ext.refl w) g (.int _) (h m h1 h2)⟩
def dSetO (o i v : D) (S : Sto) (P : Sto → Prop) : Prop := match o, i with
  | .own h, .int k => ∃ ds j, S[h]? = some (.lst ds) ∧ ixN ds.length k = some j ∧ P (S.set h (.lst (ds.set j v)))
  | _, _ => False
theorem setd_o {K : PySem.W.Frag} : TSetD K rSetL dSetO := fun w S o i v do_ di dv P Q g r1 r2 r3 h q => by
  cases do_ with
  | own hh =>
    cases di with
    | int k =>
      obtain ⟨ds, j, e, hj, hP⟩ := h
      obtain ⟨a, xs, rfl, ha, hH, ra⟩ := own_at g r1 e
      refine ⟨a, xs, k, j, rfl, rv_int r2, hH, by rw [ra.length]; exact hj, ?_⟩
      exact q (w.wr a (.lst (xs.set j v))) _ (Ext.wr _ (List.mem_of_getElem? ha)) (g.wr ha e (ra.set r3 j)) hP
    | _ => exact h.elim
  | _ => cases di <;> exact h.elim
/-- methods of a list in a cell -/
def MtD (K : PySem.W.Frag) (r : V → List V → Hp → VK → Prop) (f : D → List D → Sto → KD → Prop) : Prop :=
  ∀ w S x vs d ds Φ Q, Good K w S → Rv K w x d → Ra K w vs ds → f d ds S Φ → OkD K w Φ Q → r x vs w.H Q
def isLst (S : Sto) (d : D) : Prop := ∃ ds, asL S d = some ds
def dBM (f : D → List D → Sto → KD → Prop) (T : TD) (Tl : TL) : TD := fun Γ S Φ Ψ => T Γ S (fun S1 d => isLst S1 d ∧ Tl Γ S1 (fun S2 ds => f d ds S2 Φ) Ψ) Ψ
def dBM0 (f : D → List D → Sto → KD → Prop) (T : TD) : TD := fun Γ S Φ Ψ => T Γ S (fun S1 d => isLst S1 d ∧ f d [] S1 Φ) Ψ
section
variable {X : Cx} {W : WX} {o e : Expr} {es : List Expr} {apos cpos : Pos} {to : TE} {To : TD} {tl : TA} {Tl : TL}
theorem je_bm {name : Str} {id : String} {r : V → List V → Hp → VK → Prop} {f : D → List D → Sto → KD → Prop} (slot : Slot "list" name id) (hty : typeOf (.builtin id) = pure (.type "method_descriptor")) (hm : MtM X id r) (hd : MtD X.K r f) (ho : JE X W o to To) (ha : JA X W (e :: es) tl Tl)
    (hbase : attributeBase o name X.env (eval o X.env) = eval o X.env := by rfl)
    (hfew : ((backTo cpos (starEach (e :: es) X.env)).all (fun x => !x.1) && (backToKw cpos (keywordEach [] X.env)).all (fun x => x.1.isSome)
      && decide ((e :: es).length + ([] : List Keyword).length + (if ([] : List Keyword).isEmpty then 0 else 1) < 30)) = true := by rfl)
    (hline : (apos.endLine == cpos.line) = true := by rfl) (hs : starEach (e :: es) X.env = (false, eval e X.env) :: starEach es X.env := by rfl) (hplain : (backTo cpos (starEach es X.env)).any (·.1) = false := by rfl) :
    JE X W (.Call (.Attribute o name apos) (e :: es) [] cpos) (tBM X.K "list" r to tl) (dBM f To Tl) := ⟨pe_bm PySem.F.plainAttrs_list slot hty hm ho.pe ha.pa hbase hfew hline hs hplain, fun Γ S Φ Ψ σ w g sl h hx Q q =>
  ho.sem Γ S _ Ψ σ w g sl h hx _ fun v d w1 S1 e1 g1 r1 ⟨⟨xs, hl⟩, h1⟩ => by
    obtain ⟨a, ys, rfl, hH, _⟩ := asL_at g1 r1 hl
    exact ⟨Or.inl ⟨rfl, _, Or.inl (Or.inl hH)⟩, ha.sem Γ S1 _ Ψ σ w1 g1 (sl.ext e1) h1 (hx.ext e1) _ fun vs ds w2 S2 e2 g2 r2 h2 => hd w2 S2 _ vs d ds Φ Q g2 (e2.rp r1) r2 h2 (q.ext (e1.trans e2))⟩⟩
end
def mAppend (d : D) (ds : List D) (S : Sto) (Φ : KD) : Prop := match d, ds with
  | .own h, [y] => ∃ xs, S[h]? = some (.lst xs) ∧ xs.length < sizeLine ∧ Φ (S.set h (.lst (xs ++ [y]))) .non
  | _, _ => False
theorem mtd_append {K : PySem.W.Frag} : MtD K rAppend mAppend := fun w S x vs d ds Φ Q g r1 r2 h q => by
  cases d with
  | own hh =>
    cases ds with
    | nil => exact h.elim
    | cons y t =>
      cases t with
      | cons _ _ => exact h.elim
      | nil =>
        obtain ⟨xs, e, hl, hΦ⟩ := h
        obtain ⟨a, ys, rfl, ha, hH, ra⟩ := own_at g r1 e
        obtain ⟨v, rfl, rv⟩ := one_of r2
        exact ⟨a, ys, v, rfl, rfl, hH, by rw [ra.length]; exact hl, q .non .non (w.wr a (.lst (ys ++ [v]))) _ (Ext.wr _ (List.mem_of_getElem? ha)) (g.wr ha e (ra.append (.cons rv .nil))) .non hΦ⟩
  | _ => exact h.elim
def mExtend (d : D) (ds : List D) (S : Sto) (Φ : KD) : Prop := match d, ds with
  | .own h, [y] => ∃ xs ys, S[h]? = some (.lst xs) ∧ asL S y = some ys ∧ xs.length + ys.length ≤ sizeLine ∧ Φ (S.set h (.lst (xs ++ ys))) .non
  | _, _ => False
theorem mtd_extend {K : PySem.W.Frag} : MtD K rExtend mExtend := fun w S x vs d ds Φ Q g r1 r2 h q => by
  cases d with
  | own hh =>
    cases ds with
    | nil => exact h.elim
    | cons y t =>
      cases t with
      | cons _ _ => exact h.elim
      | nil =>
        obtain ⟨xs, zs, e, e2, hl, hΦ⟩ := h
        obtain ⟨a, ys, rfl, ha, hH, ra⟩ := own_at g r1 e
        obtain ⟨v, rfl, rv⟩ := one_of r2
        obtain ⟨b, us, rfl, hb, rb⟩ := asL_at g rv e2
        exact ⟨a, b, ys, us, rfl, rfl, hH, hb, by rw [ra.length, rb.length]; exact hl, q .non .non (w.wr a (.lst (ys ++ us))) _ (Ext.wr _ (List.mem_of_getElem? ha)) (g.wr ha e (ra.append rb)) .non hΦ⟩
  | _ => exact h.elim
def mReverse (d : D) (ds : List D) (S : Sto) (Φ : KD) : Prop := match d, ds with
  | .own h, [] => ∃ xs, S[h]? = some (.lst xs) ∧ Φ (S.set h (.lst xs.reverse)) .non
  | _, _ => False
def mClear (d : D) (ds : List D) (S : Sto) (Φ : KD) : Prop := match d, ds with
  | .own h, [] => ∃ xs, S[h]? = some (.lst xs) ∧ Φ (S.set h (.lst [])) .non
  | _, _ => False
section
variable {X : Cx} {W : WX} {tg e a b : Expr} {te : TE} {Te : TD} {tl : TA} {Tl : TL} {p pos : Pos}
def iSeq (T : TD) : TId := fun Γ S Φ Ψ => T Γ S (fun S1 d => (∃ ds, asQ S1 d = some ds) ∧ Φ S1 (fun S' => asQ S' d)) Ψ
theorem src_list {K : PySem.W.Frag} {w0 : Hs} {v : V} {d : D} {a : Addr} (r : Rv K w0 v d) (e : v = .ref a) : SrcOk K w0 (Itl K a) (fun S' => asQ S' d) := fun w S ds i e' g h => by
  subst e
  obtain ⟨b, xs, eb, hs, ra⟩ := asQ_at g (e'.rp r) h
  cases eb
  refine ⟨fun d' hd => ?_, fun hl => ⟨xs, hs, by rw [ra.length]; exact hl⟩⟩
  obtain ⟨x, hx, rx⟩ := ra.get hd
  refine ⟨⟨xs, x, hs, hx⟩, fun y H' ⟨e1, hy⟩ => ?_⟩
  have := hy xs hs
  rw [hx] at this
  cases this
  exact ⟨w, Ext.refl w, g, e1.symm, rx⟩
theorem ji_list (h : JE X W e te Te) : JI X W tg e (iList X.K te) (iSeq Te) := ⟨pi_list h.pe, fun Γ S Φ Ψ σ w g sl hT hx Q q =>
  h.sem Γ S _ Ψ σ w g sl hT hx _ fun v d w1 S1 e1 g1 r1 ⟨⟨ds, hd⟩, h1⟩ => by
    obtain ⟨a, xs, rfl, hs, _⟩ := asQ_at g1 r1 hd
    exact ⟨a, rfl, ⟨xs, hs⟩, q _ _ w1 S1 e1 g1 (src_list r1 rfl) h1⟩⟩
def iTupD (T : TD) : TId := fun Γ S Φ Ψ => T Γ S (fun S1 d => ∃ ds, d = .tup ds ∧ Φ S1 (fun _ => some ds)) Ψ
def rngD (lo : Int) (n : Nat) : List D := (List.range n).map fun (i : Nat) => D.int (lo + (i : Int))
theorem rngD_get {lo : Int} {n i : Nat} {d : D} (h : (rngD lo n)[i]? = some d) : i < n ∧ d = .int (lo + (i : Int)) := by
  unfold rngD at h
  rw [List.getElem?_map] at h
  cases q : (List.range n)[i]? with
  | none => rw [q] at h; cases h
  | some j =>
    rw [q] at h
    obtain ⟨h1, h2⟩ := List.getElem?_eq_some_iff.mp q
    rw [List.getElem_range] at h2
    rw [List.length_range] at h1
    subst h2
    cases h
    exact ⟨h1, rfl⟩
theorem rngD_len (lo : Int) (n : Nat) : (rngD lo n).length = n := by
  unfold rngD
  rw [List.length_map, List.length_range]
theorem src_rng {K : PySem.W.Frag} {w0 : Hs} {lo : Int} {n : Nat} : SrcOk K w0 (Itr lo n) (fun _ => some (rngD lo n)) := fun w S ds i e' g h => by
  cases h
  refine ⟨fun d hd => ?_, fun hl => by rw [rngD_len] at hl; exact hl⟩
  obtain ⟨h1, rfl⟩ := rngD_get hd
  exact ⟨h1, fun x H' ⟨e1, e2⟩ => ⟨w, Ext.refl w, g, e1.symm, by rw [e2]; exact .int _⟩⟩
def iRg1 (T : TL) : TId := fun Γ S Φ Ψ => T Γ S (fun S1 ds => ∃ j, ds = [.int j] ∧ -(2 ^ 62) ≤ j ∧ j < 2 ^ 62 ∧ Φ S1 (fun _ => some (rngD 0 j.toNat))) Ψ
def iRg2 (T : TL) : TId := fun Γ S Φ Ψ => T Γ S (fun S1 ds => ∃ i j, ds = [.int i, .int j] ∧ (-(2 ^ 62) ≤ i ∧ i < 2 ^ 62 ∧ -(2 ^ 62) ≤ j ∧ j < 2 ^ 62) ∧ Φ S1 (fun _ => some (rngD i (j - i).toNat))) Ψ
theorem ji_range1 (hg : Gl X "range") (hm : X.mg "range" = none) (ha : JA X W [a] tl Tl) (hs : starEach [a] X.env = [(false, eval a X.env)] := by rfl) : JI X W tg (.Call (.Name "range" p) [a] [] pos) (iRng1 tl) (iRg1 Tl) := ⟨pi_range1 hg hm ha.pa hs, fun Γ S Φ Ψ σ w g sl hT hx Q q =>
  ha.sem Γ S _ Ψ σ w g sl hT hx _ fun vs ds w1 S1 e1 g1 r1 ⟨j, ed, h1, h2, h3⟩ => by
    subst ed
    obtain ⟨v, rfl, rv⟩ := one_of r1
    exact ⟨j, by rw [rv_int rv], h1, h2, q _ _ w1 S1 e1 g1 src_rng h3⟩⟩
theorem ji_range2 (hg : Gl X "range") (hm : X.mg "range" = none) (ha : JA X W [a, b] tl Tl) (hs : starEach [a, b] X.env = [(false, eval a X.env), (false, eval b X.env)] := by rfl) (hs2 : starEach [b] X.env = [(false, eval b X.env)] := by rfl) : JI X W tg (.Call (.Name "range" p) [a, b] [] pos) (iRng2 tl) (iRg2 Tl) := ⟨pi_range2 hg hm ha.pa hs hs2, fun Γ S Φ Ψ σ w g sl hT hx Q q =>
  ha.sem Γ S _ Ψ σ w g sl hT hx _ fun vs ds w1 S1 e1 g1 r1 ⟨i, j, ed, h1, h3⟩ => by
    subst ed
    cases r1 with
    | cons ra rb =>
      obtain ⟨v, rfl, rv⟩ := one_of rb
      exact ⟨i, j, by rw [rv_int ra, rv_int rv], h1, q _ _ w1 S1 e1 g1 src_rng h3⟩⟩
/-- zip of two lists, enumerate of a list: a new tuple each -/
def zipD (xs ys : List D) : List D := (xs.zip ys).map fun p => D.tup [p.1, p.2]
def enumD (xs : List D) : List D := (List.range xs.length).map fun (i : Nat) => D.tup [.int (i : Int), xs.getD i .non]
theorem zipD_get {xs ys : List D} {i : Nat} {d : D} (h : (zipD xs ys)[i]? = some d) : ∃ x y, xs[i]? = some x ∧ ys[i]? = some y ∧ d = .tup [x, y] := by
  unfold zipD at h
  rw [List.getElem?_map] at h
  cases q : (xs.zip ys)[i]? with
  | none => rw [q] at h; cases h
  | some p =>
    rw [q] at h
    cases h
    obtain ⟨h1, h2⟩ := List.getElem?_zip_eq_some.mp q
    exact ⟨p.1, p.2, h1, h2, rfl⟩
theorem enumD_get {xs : List D} {i : Nat} {d : D} (h : (enumD xs)[i]? = some d) : ∃ x, xs[i]? = some x ∧ d = .tup [.int (i : Int), x] := by
  unfold enumD at h
  rw [List.getElem?_map] at h
  cases q : (List.range xs.length)[i]? with
  | none => rw [q] at h; cases h
  | some j =>
    rw [q] at h
    obtain ⟨h1, h2⟩ := List.getElem?_eq_some_iff.mp q
    rw [List.getElem_range] at h2
    rw [List.length_range] at h1
    subst h2
    cases h
    refine ⟨xs[i], List.getElem?_eq_getElem h1, ?_⟩
    show D.tup [D.int (i : Int), xs.getD i D.non] = D.tup [D.int (i : Int), xs[i]]
    rw [List.getD_eq_getElem?_getD, List.getElem?_eq_getElem h1] <;> rfl
theorem enumD_len (xs : List D) : (enumD xs).length = xs.length := by
  unfold enumD
  rw [List.length_map, List.length_range]
theorem zipD_len (xs ys : List D) : (zipD xs ys).length = min xs.length ys.length := by
  unfold zipD
  rw [List.length_map, List.length_zip]
def iZipD (T : TL) : TId := fun Γ S Φ Ψ => T Γ S (fun S1 ds => ∃ d e, ds = [d, e] ∧ (∃ xs, asQ S1 d = some xs) ∧ (∃ ys, asQ S1 e = some ys) ∧ Φ S1 (fun S' => (asQ S' d).bind fun xs => (asQ S' e).map fun ys => zipD xs ys)) Ψ
def iEnumD (T : TL) : TId := fun Γ S Φ Ψ => T Γ S (fun S1 ds => ∃ d, ds = [d] ∧ (∃ xs, asQ S1 d = some xs) ∧ Φ S1 (fun S' => (asQ S' d).map enumD)) Ψ
theorem tup_new {K : PySem.W.Frag} {w : Hs} {S : Sto} (g : Good K w S) {T : Addr} {vs : List V} {ds : List D} (hT : w.H T = none) (r : Ra K w vs ds) : ∃ w', Ext w w' ∧ Good K w' S ∧ w'.H = upd w.H T (.tup vs) ∧ Rv K w' (.ref T) (.tup ds) :=
  ⟨w.frz T (.tup vs), Ext.frz g _ hT, g.frz _ hT, rfl, .tup (.inl (.inl upd_same)) ((Ext.frz g _ hT).ra r)⟩
theorem ji_zip {e2 : Expr} {elts : List Expr} {kk : Nat} {tpos : Pos} (hg : Gl X "zip") (hm : X.mg "zip" = none) (ha : JA X W [e, e2] tl Tl) (hs : starEach [e, e2] X.env = (false, eval e X.env) :: starEach [e2] X.env := by rfl) (hpl : (backTo pos (starEach [e2] X.env)).any (·.1) = false := by rfl) :
    JI X W (.Tuple elts kk tpos) (.Call (.Name "zip" p) [e, e2] [] pos) (iZip X.K tl) (iZipD Tl) := ⟨pi_zip hg hm ha.pa hs hpl, fun Γ S Φ Ψ σ w g sl hT hx Q q =>
  ha.sem Γ S _ Ψ σ w g sl hT hx _ fun vs ds w1 S1 e1 g1 r1 ⟨d, d2, ed, ⟨xs, hxs⟩, ⟨ys, hys⟩, h3⟩ => by
    subst ed
    cases r1 with
    | cons ra rb =>
      obtain ⟨v, rfl, rv⟩ := one_of rb
      obtain ⟨a1, us, rfl, hs1, _⟩ := asQ_at g1 ra hxs
      obtain ⟨a2, us2, rfl, hs2, _⟩ := asQ_at g1 rv hys
      refine ⟨a1, a2, us, us2, rfl, hs1, hs2, q _ _ w1 S1 e1 g1 (fun w S ds i e' g hh => ?_) h3⟩
      cases q1 : asQ S d with
      | none => rw [q1] at hh; cases hh
      | some xs' =>
        cases q2 : asQ S d2 with
        | none => rw [q1, q2] at hh; cases hh
        | some ys' =>
          rw [q1, q2] at hh
          cases hh
          obtain ⟨b1, vs1, eb1, hsa, ra1⟩ := asQ_at g (e'.rp ra) q1
          obtain ⟨b2, vs2, eb2, hsb, ra2⟩ := asQ_at g (e'.rp rv) q2
          cases eb1
          cases eb2
          refine ⟨fun dd hd => ?_, fun hl => ⟨vs1, vs2, hsa, hsb, ?_⟩⟩
          · obtain ⟨x, y, hx1, hy1, rfl⟩ := zipD_get hd
            obtain ⟨vx, hvx, rvx⟩ := ra1.get hx1
            obtain ⟨vy, hvy, rvy⟩ := ra2.get hy1
            refine ⟨⟨vs1, vs2, vx, vy, hsa, hsb, hvx, hvy⟩, fun z H' ⟨T, x', y', ez, hn, eH, fx, fy⟩ => ?_⟩
            have f1 := fx vs1 hsa
            have f2 := fy vs2 hsb
            rw [hvx] at f1
            rw [hvy] at f2
            cases f1
            cases f2
            subst ez
            obtain ⟨w', ee, gg, eh, rr⟩ := tup_new g hn (.cons rvx (.cons rvy .nil))
            exact ⟨w', ee, gg, by rw [eh, eH], rr⟩
          · rw [zipD_len] at hl
            rw [ra1.length, ra2.length]
            omega⟩
theorem ji_enum {elts : List Expr} {kk : Nat} {tpos : Pos} (hg : Gl X "enumerate") (hm : X.mg "enumerate" = none) (ha : JA X W [e] tl Tl) (hs : starEach [e] X.env = [(false, eval e X.env)] := by rfl) :
    JI X W (.Tuple elts kk tpos) (.Call (.Name "enumerate" p) [e] [] pos) (iEnum X.K tl) (iEnumD Tl) := ⟨pi_enum hg hm ha.pa hs, fun Γ S Φ Ψ σ w g sl hT hx Q q =>
  ha.sem Γ S _ Ψ σ w g sl hT hx _ fun vs ds w1 S1 e1 g1 r1 ⟨d, ed, ⟨xs, hxs⟩, h3⟩ => by
    subst ed
    obtain ⟨v, rfl, rv⟩ := one_of r1
    obtain ⟨a1, us, rfl, hs1, _⟩ := asQ_at g1 rv hxs
    refine ⟨a1, us, rfl, hs1, q _ _ w1 S1 e1 g1 (fun w S ds i e' g hh => ?_) h3⟩
    cases q1 : asQ S d with
    | none => rw [q1] at hh; cases hh
    | some xs' =>
      rw [q1] at hh
      cases hh
      obtain ⟨b1, vs1, eb1, hsa, ra1⟩ := asQ_at g (e'.rp rv) q1
      cases eb1
      refine ⟨fun dd hd => ?_, fun hl => ⟨vs1, hsa, ?_⟩⟩
      · obtain ⟨x, hx1, rfl⟩ := enumD_get hd
        obtain ⟨vx, hvx, rvx⟩ := ra1.get hx1
        refine ⟨⟨vs1, vx, hsa, hvx⟩, fun z H' ⟨T, x', ez, hn, eH, fx⟩ => ?_⟩
        have f1 := fx vs1 hsa
        rw [hvx] at f1
        cases f1
        subst ez
        obtain ⟨w', ee, gg, eh, rr⟩ := tup_new g hn (.cons (.int (i : Int)) (.cons rvx .nil))
        exact ⟨w', ee, gg, by rw [eh, eH], rr⟩
      · rw [enumD_len] at hl
        rw [ra1.length]
        exact hl⟩
end
end DL
namespace DL
open PySem PySem.Spec PyProof.Rows L2
def sRaise (C : Addr) : TSd := fun D _ S => D.er S ⟨C, []⟩
theorem js_raise {X : Cx} {W : WX} {x m : Str} {C : Addr} {j : Nat} {p p2 pos pos' : Pos} (hc : X.calm = true) (tk : Takes X W) (q : PySem.W.excIn X.K C He.veBase "ValueError.__new__" = true) (gC : X.mg x = some (.ref C)) (kC : PySem.W.keepIn X.K (.ref C) = true)
    (b : PySem.W.subIn X.K (.ref C) (.type "BaseException") = some true) (t : PySem.W.typeIn X.K (.ref C) = some (.type "type")) (hg : Gl X x) (hdb : (x == ("__debug__" : Str)) = false := by decide) :
    JS X W (.Raise (some (.Call (.Name x p) [.Constant (.str m) j p2] [] pos')) none pos) (fun _ σ H => (fun (_ : L2.St) (H : Hp) (Q : XK) => Q (.ref C) none H) σ H fun cls d H' => W cls d σ H') (sRaise C) :=
  ⟨ps_raise hc tk (pmk_own PySem.F.excBase_ValueError q gC kC (raises_own b t) hg hdb), fun D' Γ S σ w D g sl h r => r.er σ (.ref C) none ⟨C, []⟩ w S (Ext.refl w) g ⟨rfl, rfl⟩ h⟩
def tyOf (S : Sto) : D → Option String
  | .non => some "NoneType"
  | .bl _ => some "bool"
  | .int _ => some "int"
  | .str _ => some "str"
  | .lst _ => some "list"
  | .sq _ => some "list"
  | .tup _ => some "tuple"
  | .dic _ => some "dict"
  | .own h => match S[h]? with
    | some (.lst _) => some "list"
    | _ => none
  | _ => none
def isTyB (a n : String) : Bool := a == n || (a == "bool" && n == "int")
def tys : List String := ["NoneType", "bool", "int", "str", "list", "tuple", "dict"]
def tyN : List String := ["int", "bool", "str", "list", "tuple", "dict"]
theorem kit_all : (tys.all fun a => tyN.all fun n => decide (kitB a n = some (isTyB a n))) = true := by decide +kernel
theorem kit_at {K : PySem.W.Frag} {a n : String} (ha : a ∈ tys) (hn : n ∈ tyN) : PySem.W.kitOne K (.type a) (.type n) = some (isTyB a n) := by
  have h := List.all_eq_true.mp kit_all a ha
  have h2 := List.all_eq_true.mp h n hn
  exact kit_ty (of_decide_eq_true h2)
theorem tyx_of {K : PySem.W.Frag} {w : Hs} {S : Sto} (g : Good K w S) {v : V} {d : D} {n : String} (r : Rv K w v d) (h : tyOf S d = some n) : TyX K w.H v (.type n) ∧ n ∈ tys := by
  cases d with
  | non => cases r; cases h; exact ⟨.base .non, by decide⟩
  | bl b => cases r; cases h; exact ⟨.base (.bl b), by decide⟩
  | int b => cases r; cases h; exact ⟨.base (.int b), by decide⟩
  | str b => cases r; cases h; exact ⟨.base (.str b), by decide⟩
  | lst ds =>
    cases h
    cases r with
    | lst h1 h2 => exact ⟨.base (.lst (g.sub _ _ h1)), by decide⟩
  | sq ds =>
    cases h
    cases r with
    | sq h1 h2 =>
      refine ⟨?_, by decide⟩
      rcases h1 with (h1 | ⟨o, h1⟩) | ⟨o, its, m, h1, hc, _⟩
      · exact .base (.lst (g.sub _ _ h1))
      · exact .base (.frz (g.sub _ _ h1))
      · exact .kList h1 hc
  | tup ds =>
    cases h
    cases r with
    | tup h1 h2 =>
      refine ⟨?_, by decide⟩
      rcases h1 with (h1 | ⟨o, h1⟩) | ⟨o, its, m, h1, hc, _⟩
      · exact .base (.tup (g.sub _ _ h1))
      · exact .fTuple (g.sub _ _ h1)
      · exact .kTuple h1 hc
  | dic ds =>
    cases h
    cases r with
    | dic h1 h2 => exact ⟨.base (.dK (g.sub _ _ h1)), by decide⟩
  | own hh =>
    have e2 : (match S[hh]? with
      | some (.lst _) => some "list"
      | _ => none) = some n := h
    cases q : S[hh]? with
    | none => rw [q] at e2; cases e2
    | some c =>
      rw [q] at e2
      cases c with
      | gone => cases e2
      | ins _ _ => cases e2
      | dct _ => cases e2
      | dck _ => cases e2
      | lck _ _ _ => cases e2
      | lst es =>
        cases e2
        obtain ⟨a, xs, rfl, _, h2, _⟩ := own_at g r q
        exact ⟨.base (.lst h2), by decide⟩
  | _ => cases h
def cIsi (ds : List D) (S : Sto) (Φ : KD) : Prop := match ds with
  | [d, .ty n] => ∃ a, tyOf S d = some a ∧ n ∈ tyN ∧ Φ S (.bl (isTyB a n))
  | _ => False
theorem two_of {K : PySem.W.Frag} {w : Hs} {vs : List V} {d e : D} (r : Ra K w vs [d, e]) : ∃ v u, vs = [v, u] ∧ Rv K w v d ∧ Rv K w u e := by
  cases r with
  | cons r1 r2 =>
    obtain ⟨u, rfl, ru⟩ := one_of r2
    exact ⟨_, _, rfl, r1, ru⟩
theorem rv_ty {K : PySem.W.Frag} {w : Hs} {v : V} {n : String} (r : Rv K w v (.ty n)) : v = .ty n := by cases r; rfl
theorem cd_isi {K : PySem.W.Frag} : CallD K (rIsi K) cIsi := fun w S vs ds Φ Q g r h q => by
  cases ds with
  | nil => exact h.elim
  | cons d t =>
    cases t with
    | nil => exact h.elim
    | cons e t2 =>
      cases t2 with
      | cons _ _ => cases e <;> exact h.elim
      | nil =>
        cases e with
        | ty n =>
          obtain ⟨a, h1, h2, h3⟩ := h
          obtain ⟨v, u, rfl, rv, ru⟩ := two_of r
          rw [rv_ty ru]
          obtain ⟨h4, h5⟩ := tyx_of g rv h1
          exact ⟨v, .ty n, .type a, .type n, isTyB a n, rfl, .ty n, h4, kit_at h5 h2, q _ _ w S (Ext.refl w) g (.bl _) h3⟩
        | _ => exact h.elim
/-- as FnOk, where the guards around are known to be none -/
structure FnOkG (P : Program) (wd : World) (K : PySem.W.Frag) (mg : Str → Option Value) (B : Heap) (cx : CXT) (k : Nat) (f : Addr) (fd : FuncData) (ps : List Str) (sp : Sp) : Prop where
  many : ∀ as H Q E, sp as H Q E → as.length = ps.length
  go : ∀ (Ar : Around) (out : List Env) (s0 : Shared) (H : Hp) (ar : Args) (us : List Value) (as : List V) (Q : VK) (E : XK),
    Ar.guards = some [] → Room k Ar → Env0 P wd K mg B Ar out s0 H → BindsTo s0 fd ar (ps.zip us) → Vals as us → sp as H Q E →
      codeAny (model P wd) Ar (.call (.ref f) ar) (CR cx out P wd H s0 Q E) s0
section
variable {P : Program} {wd : World} {K : PySem.W.Frag} {mg : Str → Option Value} {B : Heap} {cx : CXT} {k : Nat} {f : Addr} {fd : FuncData} {ps N : List Str} {sp : Sp}
theorem FnOkG.of (F : FnOk P wd K mg B cx k f fd ps sp) : FnOkG P wd K mg B cx k f fd ps sp where
  many := F.len
  go := fun Ar out s0 H ar us as Q E _ room en bi vs h => F.run Ar out s0 H ar us as Q E room en bi vs h
/-- how a body's end is a call's end -/
theorem end_of {qual : Str} {scope : Scope} {cdv : Value} {Ar : Around} {out : List Env} {s0 s1 : Shared} {H : Hp} {Q : VK} {E : XK} {fl : Flow}
    (h : SP (cxOf cx P wd K mg B N qual scope f cdv Ar out s0 H E) [] { nx := fun _ H1 => Q .non H1, rt := Q } fl s1) :
    match fl with
    | .ret u => CE out P wd H s0 Q u s1
    | .next => CE out P wd H s0 Q .none s1
    | _ => False := by
  cases fl with
  | ret u => exact let ⟨v, _, H1, J, r, q⟩ := h; ⟨v, H1, J.os, J.bare, J.base, J.hok, r, q⟩
  | next => exact let ⟨_, H1, J, q⟩ := h; ⟨.non, H1, J.os, J.bare, J.base, J.hok, rfl, q⟩
  | brk => exact let ⟨_, _, _, q⟩ := h; q.elim
  | cont => exact let ⟨_, _, _, q⟩ := h; q.elim
theorem fn_ofG {nm qual : Str} {pr : Arguments} {bd : List Stmt} {scope : Scope} {dV kV doc pm cdv ct oc : Value} {an od : Option Addr} {osl : Array (Option Value)}
    (there : K.lookup f = some ⟨oc, od, .func (PySem.W.fnOf nm qual pr bd scope dV kV doc pm an cdv ct), osl⟩) (code : PySem.W.codeIn K cdv qual = true) (Sc : FnScope N ps scope) (many : ∀ as H Q E, sp as H Q E → as.length = ps.length)
    (body : ∀ (Ar : Around) (out : List Env) (s0 : Shared) (H : Hp) (as : List V) (Q : VK) (E : XK), Ar.guards = some [] → Room k (Ar.deeper (envOfC qual scope s0.heap.objs.size f cdv)) → sp as H Q E →
      ∃ t, PSs (cxOf cx P wd K mg B N qual scope f cdv Ar out s0 H E) bd t ∧ t { nx := fun _ H1 => Q .non H1, rt := Q } (L2.start N as) H) :
    FnOkG P wd K mg B cx (k + 1) f (PySem.W.fnOf nm qual pr bd scope dV kV doc pm an cdv ct) ps sp where
  many := many
  go := by
    intro Ar out s0 H ar us as Q E gd room en bi vs hs
    obtain ⟨t, run, ask⟩ := body Ar out s0 H as Q E gd (room.deeper _) hs
    have up : ∀ c o, B.get? c = some o → s0.heap.get? c = some o := fun c o e => (en.bs c o e).1
    have kin : K.In s0.heap := en.mod.kin.keeps up
    have noLim := en.mod.nolimit.keeps up
    refine codeAny_call_function room.depth (kin _ _ there) rfl Sc.co Sc.gen rfl (PySem.W.codeRec_of kin code)
      (bi _ _ _ _ (wpAny_newFunctionEnv_cells Sc.kind (fun y hy => (Sc.par y.1 (List.of_mem_zip hy).1).elim .inl fun c => .inr ⟨c, PySem.W.cellsFrom_some _ _ _ (.inl c)⟩) ?_))
    intro env ee s1 inc
    subst ee
    refine ⟨noLim.keeps inc.toInCall.keep, codeAny_func ?_⟩
    refine wpAny_mono (run.run [] s1 (L2.start N as) H _ (inv_start Sc room.hd en (many _ _ _ _ hs) vs inc) ask) (fun fl s2 h => ?_) (fun _ _ h => h)
    have z := end_of (fl := fl) h
    cases fl <;> first | exact z | exact z.elim
end
section
variable {X : Cx} {W : WX} {e : Expr} {es : List Expr} {pos p : Pos} {tl : TA} {Tl : TL} {k : Nat} {f : Addr} {fd : FuncData} {ps : List Str} {sp : DSpec} {x : Str}
/-- the callee's run, its guards known -/
theorem goG {s0 : Sp} {pins : List (Addr × Obj)} {σ : L2.St} {H : Hp} {s : Shared} {Q : VK} {us : List Value} {vs : List V} (F : FnOkG X.prog X.w X.K X.mg X.base (L2.CX X.prog X.w) k f fd ps s0) (gd : X.A.guards = some []) (room : Room k X.A) (hb : Binds X.K fd ps []) (tk : Takes X W)
    (I : Inv X pins σ H s) (r : Vals vs us) (h : s0 vs H Q (WE W σ)) : wpAny (model X.prog X.w) X.A (call (.ref f) us) (EP X pins σ Q) X.xe s := by
  have many : (us ++ []).length = ps.length := by rw [List.append_nil, ← r.length, F.many _ _ _ _ h]
  have bi : BindsTo s fd ⟨us, []⟩ (ps.zip us) := by
    have z := hb s us I.kIn many
    rwa [List.append_nil] at z
  refine wpAny_call (codeAny_mono (F.go _ _ s H _ us vs Q _ gd room I.env0 bi r h) fun rr s2 hq => ?_)
  match rr, hq with
  | .error u, hq => exact passAt tk σ pins H s u s2 I hq
  | .ok (.ret u), hq => exact I.after hq
  | .ok .next, hq => exact False.elim hq
  | .ok .brk, hq => exact False.elim hq
  | .ok .cont, hq => exact False.elim hq
theorem je_callG (F : FnOkG X.prog X.w X.K X.mg X.base (L2.CX X.prog X.w) k f fd ps (spOf X.K sp)) (gd : X.A.guards = some []) (room : Room k X.A) (hg : Gl X x) (hm : X.mg x = some (.ref f)) (hk : PySem.W.keepIn X.K (.ref f) = true) (hb : Binds X.K fd ps [])
    (tk : Takes X W) (ha : JA X W (e :: es) tl Tl) (hdb : (x == ("__debug__" : Str)) = false := by decide) (he : starEach (e :: es) X.env = (false, eval e X.env) :: starEach es X.env := by rfl) (hpl : (backTo pos (starEach es X.env)).any (·.1) = false := by rfl) :
    JE X W (.Call (.Name x p) (e :: es) [] pos) (tCallS (spOf X.K sp) (WE W) tl) (dCall sp Tl) where
  sem := sem_call ha.sem
  pe := ⟨fun pins s σ H Q I h => wpAny_Call_Name_kw (ld_glob I hg hm (PySem.W.callWith_K (h₀ := X.base) I.ok.mod.kin hk
    (thn (ha.pa.run pos pins s σ H _ I h) fun us s1 ⟨vs, H1, I1, r, q⟩ => ⟨I1.kIn, goG F gd room hb tk I1 r q⟩) he hpl) hdb)⟩
end
end DL
namespace DL
open PySem PySem.Spec PyProof.Rows L2
section
variable {P : Program} {wd : World} {K : PySem.W.Frag} {mg mb : Str → Option Value} {k : Nat} {fa a : Addr} {fd : FuncData} {x : Str} {sp : DSpec} {s1 : Shared} {vs : List Value} {ns : List Int}
abbrev scrO (vs : List Value) : Obj := { cls := .type "list", data := .seq vs.toArray }
/-- the row's call, from what is tracked: nothing, or the script -/
theorem law_from {H : Hp} (hH : ∀ b u, H b = some u → b = a ∧ u = .frz (scrO vs) (.lst (ns.map V.int))) (hK : H a ≠ none → K.lookup a = none) (hS : SqL K H a (ns.map V.int))
    (kin : K.In s1.heap) (hns : s1.heap.Ns mainGlobals mg) (hb : s1.heap.Ns builtinsNs mb) (hbb : ∀ y : Str, y ≠ "__name__" → mb y = bootBuiltins y) (lim : s1.heap.NoLimit) (hg : s1.gens = #[]) (ha : s1.heap.get? a = some (scrO vs)) (hi : IntsAre vs ns) (hl : ns.length ≤ sizeLine)
    (room : Room k callerA) (F : ∀ base : Heap, K.In base → base.Ns mainGlobals mg → FnOkG P wd K mg base (L2.CX P wd) k fa fd [x] (spOf K sp)) (bind : ∀ (s : Shared) (u : Value), BindsTo s fd ⟨[u], []⟩ [(x, u)])
    (holds : sp [.sq (ns.map D.int)] [] (fun _ d => d = .bl true) fun _ _ => False) :
    codeAny (model P wd) callerA (.call (.ref fa) ⟨[.ref a], []⟩) (fun r s' => r = .ok (.ret (.bool true)) ∧ OldK s1.heap s'.heap ∧ s'.os = s1.os ∧ AllBare s'.gens) s1 := by
  have rv : Vals (ns.map V.int) vs := vals_ints hi
  have hok : HOk P wd H s1.heap := fun b u e => by
    obtain ⟨rfl, rfl⟩ := hH b u e
    exact ⟨ha, by rw [List.length_map]; exact hl, vs, _, rv, ha⟩
  have noD : ∀ {b : Addr} {o : Obj} {es : Array DictEntry} {n : Nat}, s1.heap.get? b = some o → o.data = .dict es n → H b = none := fun {b o es n} e d => by
    cases q : H b with
    | none => rfl
    | some u =>
      have z := (hH b u q).1
      rw [z, ha] at e
      rw [← Option.some.inj e] at d
      exact nomatch d
  have ns_ : ∀ {b : Addr} {m : Str → Option Value}, s1.heap.Ns b m → (hidT s1.heap H).Ns b m := fun {b m} n => by
    obtain ⟨o, es, ep, e, d, r⟩ := n
    exact ⟨o, es, ep, hidT_get e (noD e d), d, r⟩
  have kinB : K.In (hidT s1.heap H) := fun b o e => hidT_get (kin b o e) (by
    cases q : H b with
    | none => rfl
    | some u =>
      have z := (hH b u q).1
      have y := hK (by rw [← z, q]; exact fun t => nomatch t)
      rw [← z, e] at y
      exact nomatch y)
  have md : Mod K mg (hidT s1.heap H) := by
    obtain ⟨mc, l1, l2⟩ := lim
    exact ⟨kinB, ns_ hns, ⟨mb, ns_ hb, hbb⟩, ⟨mc, ns_ l1, l2⟩⟩
  have en : Env0 P wd K mg (hidT s1.heap H) callerA [] s1 H :=
    ⟨rfl, md, fun _ _ e => of_hidT e, Nat.le_of_eq (hidT_size _ _), trivial, (fun _ h => nomatch h), hok, .of_eq hg⟩
  have sps : spOf K sp [.ref a] H (fun v _ => v = .bl true) fun _ _ _ => False := by
    refine ⟨⟨H, [], H⟩, [], [.sq (ns.map D.int)], (fun _ d => d = .bl true), (fun _ _ => False), rfl, ⟨fun _ _ e => e, List.nodup_nil, rfl, fun h b c e => by simp at e, fun b h => nomatch h⟩, .cons (.sq hS ?_) .nil, holds, fun v d w' S' _ _ r q => ?_, fun _ _ _ _ _ _ _ _ z => z⟩
    · have e : ∀ l : List Int, RpA K H [] (l.map V.int) (l.map D.int) := fun l => by
        induction l with
        | nil => exact .nil
        | cons i l ih => exact .cons (.int i) ih
      exact e ns
    · have q : d = .bl true := q
      subst q
      exact rv_bl r
  refine codeAny_mono ((F _ kinB (ns_ hns)).go callerA [] s1 H ⟨[.ref a], []⟩ [.ref a] [.ref a] _ _ rfl room en (bind s1 _) (.cons rfl .nil) sps) fun r s2 h => ?_
  match r, h with
  | .ok (.ret u), h =>
    obtain ⟨v, H2, os, bare, un, hok2, r2, q⟩ := h
    have q : v = .bl true := q
    subst q
    have eu : u = Value.bool true := r2
    refine ⟨by rw [eu], OldK.of_keep fun b o e => ?_, os, bare⟩
    cases z : H b with
    | none => exact un.keep b o e z (fun t => nomatch t) (fun t => nomatch t)
    | some y =>
      obtain ⟨rfl, rfl⟩ := hH b y z
      have t1 := (hok2 b _ (un.frzs b _ _ z)).1
      rw [ha] at e
      rw [← Option.some.inj e]
      exact t1
  | .ok .next, h => exact False.elim h
  | .ok .brk, h => exact False.elim h
  | .ok .cont, h => exact False.elim h
  | .error e, h =>
    have h : L2.CX P wd [] H s1 (fun _ _ _ => False) e s2 := h
    obtain ⟨_, _, _, _, _, _, _, _, _, _, _, _, z⟩ := h
    exact z.elim
theorem law_end (kin : K.In s1.heap) (hns : s1.heap.Ns mainGlobals mg) (hb : s1.heap.Ns builtinsNs mb) (hbb : ∀ y : Str, y ≠ "__name__" → mb y = bootBuiltins y) (lim : s1.heap.NoLimit) (hg : s1.gens = #[]) (ha : s1.heap.get? a = some (scrO vs)) (hi : IntsAre vs ns) (hl : ns.length ≤ sizeLine)
    (room : Room k callerA) (F : ∀ base : Heap, K.In base → base.Ns mainGlobals mg → FnOkG P wd K mg base (L2.CX P wd) k fa fd [x] (spOf K sp)) (bind : ∀ (s : Shared) (u : Value), BindsTo s fd ⟨[u], []⟩ [(x, u)])
    (holds : sp [.sq (ns.map D.int)] [] (fun _ d => d = .bl true) fun _ _ => False) :
    codeAny (model P wd) callerA (.call (.ref fa) ⟨[.ref a], []⟩) (fun r s' => r = .ok (.ret (.bool true)) ∧ OldK s1.heap s'.heap ∧ s'.os = s1.os ∧ AllBare s'.gens) s1 := by
  cases q : K.lookup a with
  | some o =>
    have e := kin a o q
    rw [ha] at e
    have e2 := Option.some.inj e
    refine law_from (H := fun _ => none) (fun b u z => nomatch z) (fun z => absurd rfl z) (.inr ⟨o, vs.toArray, 0, q, ?_, ?_, ?_, ?_, ?_⟩) kin hns hb hbb lim hg ha hi hl room F bind holds
    · rw [← e2]
    · rw [← e2]
    · rw [← e2]
    · rw [List.size_toArray, hi.length]; exact hl
    · exact vals_ints hi
  | none =>
    refine law_from (H := fun b => if b = a then some (.frz (scrO vs) (.lst (ns.map V.int))) else none) (fun b u z => ?_) (fun _ => q) (.inl (.inr ⟨scrO vs, if_pos rfl⟩)) kin hns hb hbb lim hg ha hi hl room F bind holds
    by_cases e : b = a
    · exact ⟨e, (Option.some.inj ((if_pos e).symm.trans z)).symm⟩
    · exact nomatch (if_neg e).symm.trans z
end
/-- what the row's head leaves, from the law's promise by data -/
theorem walk_end {l : PySem.W.OpenLaw} {n k : Nat} {q : Program} {loose : List Str} {XP : (Str → Option Value) → Heap → Prop} {YP : World → Heap → Prop} {d : DefRec} {x : Str} (hn : l.most = some n) (hn2 : n ≤ sizeLine) (hdf : d.params.defaults = []) (room : Room k callerA)
    (F : ∀ (w : World) (mg : Str → Option Value) (fa : Addr) (h : Heap), YP w h → h.Ns mainGlobals mg → mg d.name = some (.ref fa) →
      ∃ (K : PySem.W.Frag) (fd : FuncData) (sp : DSpec), K.In h ∧ (∀ (s : Shared) (u : Value), BindsTo s fd ⟨[u], []⟩ [(x, u)]) ∧ (∀ ns : List Int, ns.length ≤ n → (∀ z ∈ ns, Builtin.Int.intBits z ≤ 1048576) → sp [.sq (ns.map D.int)] [] (fun _ d => d = .bl true) fun _ _ => False) ∧
        ∀ base : Heap, K.In base → base.Ns mainGlobals mg → FnOkG l.prog w K mg base (L2.CX l.prog w) k fa fd [x] (spOf K sp)) :
    PySem.W.WalkO q loose XP YP l.row.toRowW d [] (fun f vs => PySem.call f vs) := by
  refine Att.attach_callB hn hdf fun w s0 s1 mg mb fa o pm cd doc a vs ns G Y ho hd hcd hmg hobj hints hlen hbits hg => ?_
  obtain ⟨K, fd, sp, kin, hb, hs, hF⟩ := F w mg fa _ Y G.T.g hmg
  exact law_end kin G.T.g G.T.b G.T.builtins G.T.nolimit hg hobj hints (Nat.le_trans hlen hn2) room hF hb (hs ns hlen hbits)
end DL
namespace DL
open PySem PySem.Spec PyProof.Rows L2
def fzD (d : D) (S : Sto) (Φ : KD) : Prop := match d with
  | .own h => ∃ ds, S[h]? = some (.lst ds) ∧ Φ (S.set h .gone) (.lst ds)
  | d => Φ S d
def dFz (T : TD) : TD := fun Γ S Φ Ψ => T Γ S (fun S1 d => fzD d S1 Φ) Ψ
theorem fz_ok {K : PySem.W.Frag} {w : Hs} {S : Sto} (g : Good K w S) {Φ : KD} {Q : VK} {v : V} {d : D} (r : Rv K w v d) (h : fzD d S Φ) (q : OkD K w Φ Q) : Q v w.H := by
  have other : Φ S d → Q v w.H := fun z => q v d w S (Ext.refl w) g r z
  cases d with
  | own hh =>
    obtain ⟨ds, e, hΦ⟩ := h
    obtain ⟨a, xs, rfl, ha, hH, ra⟩ := own_at g r e
    have hm : a ∈ w.al := List.mem_of_getElem? ha
    have hF : w.F a = none := (g.cell hh a _ ha e).1
    have ee : Ext w (w.fz a (.lst xs)) := Ext.fz hm hF
    exact q (.ref a) (.lst ds) (w.fz a (.lst xs)) _ ee (g.fz ha e hH) (.lst upd_same (ee.ra ra)) hΦ
  | _ => exact other h
theorem je_fz {X : Cx} {W : WX} {e : Expr} {t : TE} {T : TD} (h : JE X W e t T) : JE X W e t (dFz T) := ⟨h.pe, fun Γ S Φ Ψ σ w g sl hT hx Q q =>
  h.sem Γ S _ Ψ σ w g sl hT hx Q fun v d w1 S1 e1 g1 r1 h1 => fz_ok g1 r1 h1 (q.ext e1)⟩
mutual
def D.low (n : Nat) : D → Bool
  | .own h => decide (h < n)
  | .lst ds => lowA n ds
  | .sq ds => lowA n ds
  | .tup ds => lowA n ds
  | .ins _ fs => lowF n fs
  | .dic kvs => lowK n kvs
  | .non => true
  | .bl _ => true
  | .int _ => true
  | .str _ => true
  | .obj _ => true
  | .ty _ => true
  | .exc _ fs => lowF n fs
def lowA (n : Nat) : List D → Bool
  | [] => true
  | d :: ds => D.low n d && lowA n ds
def lowF (n : Nat) : List (Str × D) → Bool
  | [] => true
  | (_, d) :: ds => D.low n d && lowF n ds
def lowK (n : Nat) : List (Key × D) → Bool
  | [] => true
  | (_, d) :: ds => D.low n d && lowK n ds
end
section
variable {K : PySem.W.Frag} {F : Hp} {al : List Addr}
mutual
theorem rp_low (n : Nat) : ∀ (d : D) (v : V), Rp K F al v d → d.low n = true → Rp K F (al.take n) v d
  | .non, _, h, _ => by cases h; exact .non
  | .bl _, _, h, _ => by cases h; exact .bl _
  | .int _, _, h, _ => by cases h; exact .int _
  | .str _, _, h, _ => by cases h; exact .str _
  | .lst ds, _, h, l => by
    cases h with
    | lst h1 h2 => exact .lst h1 (ra_low n ds _ h2 (by simpa [D.low] using l))
  | .sq ds, _, h, l => by
    cases h with
    | sq h1 h2 => exact .sq h1 (ra_low n ds _ h2 (by simpa [D.low] using l))
  | .tup ds, _, h, l => by
    cases h with
    | tup h1 h2 => exact .tup h1 (ra_low n ds _ h2 (by simpa [D.low] using l))
  | .ins C fs, _, h, l => by
    cases h with
    | ins h1 h2 => exact .ins h1 (rf_low n fs _ h2 (by simpa [D.low] using l))
  | .dic fs, _, h, l => by
    cases h with
    | dic h1 h2 => exact .dic h1 (rk_low n fs _ h2 (by simpa [D.low] using l))
  | .obj _, _, h, _ => by cases h; exact .obj _
  | .own m, _, h, l => by
    cases h with
    | own h1 =>
      have hm : m < n := by simpa [D.low] using l
      exact .own (by rw [List.getElem?_take_of_lt hm]; exact h1)
  | .ty _, _, h, _ => by cases h; exact .ty _
  | .exc C fs, _, h, l => by
    cases h with
    | exc0 h1 h2 h0 h3 => exact .exc0 h1 h2 h0 h3
    | excD h1 h2 h0 h3 h4 h5 => exact .excD h1 h2 h0 h3 h4 (rf_low n fs _ h5 (by simpa [D.low] using l))
theorem ra_low (n : Nat) : ∀ (ds : List D) (vs : List V), RpA K F al vs ds → lowA n ds = true → RpA K F (al.take n) vs ds
  | [], _, h, _ => by cases h; exact .nil
  | d :: ds, _, h, l => by
    rw [lowA, Bool.and_eq_true] at l
    cases h with
    | cons h1 h2 => exact .cons (rp_low n d _ h1 l.1) (ra_low n ds _ h2 l.2)
theorem rf_low (n : Nat) : ∀ (ds : List (Str × D)) (vs : List (Str × V)), RpF K F al vs ds → lowF n ds = true → RpF K F (al.take n) vs ds
  | [], _, h, _ => by cases h; exact .nil
  | (_, d) :: ds, _, h, l => by
    rw [lowF, Bool.and_eq_true] at l
    cases h with
    | cons h1 h2 => exact .cons (rp_low n d _ h1 l.1) (rf_low n ds _ h2 l.2)
theorem rk_low (n : Nat) : ∀ (ds : List (Key × D)) (vs : List (Key × V)), RpK K F al vs ds → lowK n ds = true → RpK K F (al.take n) vs ds
  | [], _, h, _ => by cases h; exact .nil
  | (_, d) :: ds, _, h, l => by
    rw [lowK, Bool.and_eq_true] at l
    cases h with
    | cons h1 h2 => exact .cons (rp_low n d _ h1 l.1) (rk_low n ds _ h2 l.2)
end
mutual
theorem low_of {n : Nat} (hn : al.length ≤ n) : ∀ (d : D) (v : V), Rp K F al v d → d.low n = true
  | .non, _, h => by simp [D.low]
  | .bl _, _, h => by simp [D.low]
  | .int _, _, h => by simp [D.low]
  | .str _, _, h => by simp [D.low]
  | .lst ds, _, h => by
    cases h with
    | lst h1 h2 => rw [D.low]; exact lowA_of hn ds _ h2
  | .sq ds, _, h => by
    cases h with
    | sq h1 h2 => rw [D.low]; exact lowA_of hn ds _ h2
  | .tup ds, _, h => by
    cases h with
    | tup h1 h2 => rw [D.low]; exact lowA_of hn ds _ h2
  | .ins C fs, _, h => by
    cases h with
    | ins h1 h2 => rw [D.low]; exact lowF_of hn fs _ h2
  | .dic fs, _, h => by
    cases h with
    | dic h1 h2 => rw [D.low]; exact lowK_of hn fs _ h2
  | .obj _, _, h => by simp [D.low]
  | .own m, _, h => by
    cases h with
    | own h1 =>
      have := (List.getElem?_eq_some_iff.mp h1).1
      rw [D.low, decide_eq_true_eq]
      omega
  | .ty _, _, h => by simp [D.low]
  | .exc C fs, _, h => by
    cases h with
    | exc0 h1 h2 h0 h3 => rw [D.low, lowF]
    | excD h1 h2 h0 h3 h4 h5 => rw [D.low]; exact lowF_of hn fs _ h5
theorem lowA_of {n : Nat} (hn : al.length ≤ n) : ∀ (ds : List D) (vs : List V), RpA K F al vs ds → lowA n ds = true
  | [], _, h => by rw [lowA]
  | d :: ds, _, h => by
    cases h with
    | cons h1 h2 => rw [lowA, low_of hn d _ h1, lowA_of hn ds _ h2] <;> rfl
theorem lowF_of {n : Nat} (hn : al.length ≤ n) : ∀ (ds : List (Str × D)) (vs : List (Str × V)), RpF K F al vs ds → lowF n ds = true
  | [], _, h => by rw [lowF]
  | (_, d) :: ds, _, h => by
    cases h with
    | cons h1 h2 => rw [lowF, low_of hn d _ h1, lowF_of hn ds _ h2] <;> rfl
theorem lowK_of {n : Nat} (hn : al.length ≤ n) : ∀ (ds : List (Key × D)) (vs : List (Key × V)), RpK K F al vs ds → lowK n ds = true
  | [], _, h => by rw [lowK]
  | (_, d) :: ds, _, h => by
    cases h with
    | cons h1 h2 => rw [lowK, low_of hn d _ h1, lowK_of hn ds _ h2] <;> rfl
end
end
def Cell.low (n : Nat) : Cell → Bool
  | .lst ds => lowA n ds
  | .ins _ fs => lowF n fs
  | .dct ks => ks.all fun p => p.2.low n
  | .dck ks => lowK n ks
  | .lck _ _ ks => lowK n ks
  | .gone => true
/-- behind a def: the cells of its own are left behind -/
def Cut (S0 S1 S' : Sto) : Prop := S0.length ≤ S1.length ∧ S1 <+: S' ∧ ∀ (h : Nat) (c : Cell), S1[h]? = some c → S0[h]? = some c ∨ c.low S1.length = true
def RetOk (S0 : Sto) (Φ : KD) : KD := fun S' d => Φ S' d ∨ ∃ S1, Cut S0 S1 S' ∧ d.low S1.length = true ∧ Φ S1 d
def ErOk (S0 : Sto) (Ψ : KX) : KX := fun S' x => Ψ S' x ∨ ∃ S1, Cut S0 S1 S' ∧ lowF S1.length x.fs = true ∧ Ψ S1 x
theorem Cut.same {S0 cs : Sto} : Cut S0 S0 (S0 ++ cs) := ⟨Nat.le_refl _, List.prefix_append _ _, fun h c e => .inl e⟩
theorem ret_cut {S0 cs : Sto} {Φ : KD} {d : D} (hl : d.low S0.length = true) (h : Φ S0 d) : RetOk S0 Φ (S0 ++ cs) d := .inr ⟨S0, Cut.same, hl, h⟩
theorem ret_now {S0 S : Sto} {Φ : KD} {d : D} (h : Φ S d) : RetOk S0 Φ S d := .inl h
section
variable {K : PySem.W.Frag} {w0 w' : Hs} {S0 S1 S' : Sto}
def Hs.tk (w : Hs) (n : Nat) : Hs := ⟨w.F, w.al.take n, w.H⟩
theorem cut_ok (g0 : Good K w0 S0) (e : Ext w0 w') (g' : Good K w' S') (c : Cut S0 S1 S') : Ext w0 (w'.tk S1.length) ∧ Good K (w'.tk S1.length) S1 := by
  obtain ⟨hl, ⟨cs, hp⟩, hc⟩ := c
  have hle : S1.length ≤ w'.al.length := by rw [g'.len, ← hp, List.length_append]; omega
  have get : ∀ (n : Nat) (a : Addr), (w'.al.take S1.length)[n]? = some a → n < S1.length ∧ w'.al[n]? = some a := fun n a q => by
    have h1 := (List.getElem?_eq_some_iff.mp q).1
    rw [List.length_take] at h1
    have h2 : n < S1.length := by omega
    rw [List.getElem?_take_of_lt h2] at q
    exact ⟨h2, q⟩
  refine ⟨⟨e.f, ?_, e.new, e.kp, e.dm⟩, ⟨g'.sub, g'.nd.sublist (List.take_sublist _ _), ?_, fun n a cc q1 q2 => ?_, fun a q => g'.dom a (List.mem_of_mem_take q)⟩⟩
  · obtain ⟨β, eb, hb⟩ := e.al
    refine ⟨β.take (S1.length - w0.al.length), ?_, fun b q => hb b (List.mem_of_mem_take q)⟩
    show w'.al.take S1.length = _
    rw [eb, List.take_append, List.take_of_length_le (by rw [g0.len]; exact hl)]
  · show (w'.al.take S1.length).length = _
    rw [List.length_take]; omega
  · obtain ⟨h2, q1⟩ := get n a q1
    have q3 : S'[n]? = some cc := by rw [← hp, List.getElem?_append_left h2]; exact q2
    have ok := g'.cell n a cc q1 q3
    cases cc with
    | gone => exact True.intro
    | lst ds =>
      obtain ⟨hF, xs, hH, ra⟩ := ok
      refine ⟨hF, xs, hH, ra_low _ ds xs ra ?_⟩
      rcases hc n _ q2 with z | z
      · have hn0 : n < w0.al.length := by rw [g0.len]; exact (List.getElem?_eq_some_iff.mp z).1
        have q0 : w0.al[n]? = some w0.al[n] := List.getElem?_eq_getElem hn0
        obtain ⟨_, ys, _, r0⟩ := g0.cell n _ _ q0 z
        exact lowA_of (by rw [g0.len]; exact hl) ds ys r0
      · exact z
    | ins C fs =>
      obtain ⟨hF, dx, xs, hH, ra⟩ := ok
      refine ⟨hF, dx, xs, hH, rf_low _ fs xs ra ?_⟩
      rcases hc n _ q2 with z | z
      · have hn0 : n < w0.al.length := by rw [g0.len]; exact (List.getElem?_eq_some_iff.mp z).1
        have q0 : w0.al[n]? = some w0.al[n] := List.getElem?_eq_getElem hn0
        obtain ⟨_, _, ys, _, r0⟩ := g0.cell n _ _ q0 z
        exact lowF_of (by rw [g0.len]; exact hl) fs ys r0
      · exact z
    | dct ks =>
      obtain ⟨hF, us, hH, ra⟩ := ok
      refine ⟨hF, us, hH, ra.1, fun i k d q => ?_⟩
      obtain ⟨v, q5, rv⟩ := ra.2 i k d q
      refine ⟨v, q5, rp_low _ d v rv ?_⟩
      rcases hc n _ q2 with z | z
      · have hn0 : n < w0.al.length := by rw [g0.len]; exact (List.getElem?_eq_some_iff.mp z).1
        have q0 : w0.al[n]? = some w0.al[n] := List.getElem?_eq_getElem hn0
        obtain ⟨_, ys, _, r0⟩ := g0.cell n _ _ q0 z
        obtain ⟨v0, _, rv0⟩ := r0.2 i k d q
        exact low_of (by rw [g0.len]; exact hl) d v0 rv0
      · have z : (ks.all fun p => p.2.low S1.length) = true := z
        rw [List.all_eq_true] at z
        exact z (k, d) (List.mem_of_getElem? q)
    | dck ks =>
      obtain ⟨hF, us, hH, ra⟩ := ok
      refine ⟨hF, us, hH, rk_low _ ks us ra ?_⟩
      rcases hc n _ q2 with z | z
      · have hn0 : n < w0.al.length := by rw [g0.len]; exact (List.getElem?_eq_some_iff.mp z).1
        have q0 : w0.al[n]? = some w0.al[n] := List.getElem?_eq_getElem hn0
        obtain ⟨_, ys, _, r0⟩ := g0.cell n _ _ q0 z
        exact lowK_of (by rw [g0.len]; exact hl) ks ys r0
      · exact z
    | lck o us ks =>
      obtain ⟨hF, hH, ra⟩ := ok
      refine ⟨hF, hH, rk_low _ ks us ra ?_⟩
      rcases hc n _ q2 with z | z
      · have hn0 : n < w0.al.length := by rw [g0.len]; exact (List.getElem?_eq_some_iff.mp z).1
        have q0 : w0.al[n]? = some w0.al[n] := List.getElem?_eq_getElem hn0
        obtain ⟨_, _, r0⟩ := g0.cell n _ _ q0 z
        exact lowK_of (by rw [g0.len]; exact hl) ks us r0
      · exact z
end
theorem body_ok2 {K : PySem.W.Frag} {N : List Str} {t : TS} {T : TSd} {sp : DSpec} {E : XK} (hb : SemS K (WD E) t T) (h : ∀ ds S Φ Ψ, sp ds S Φ Ψ → T { nx := fun _ S' => RetOk S Φ S' .non, rt := RetOk S Φ, er := ErOk S Ψ } (gstart N ds) S) {vs : List V} {H : Hp} {Q : VK} (hs : spOf K sp vs H Q E) :
    t { nx := fun _ H' => Q .non H', rt := Q } (L2.start N vs) H := by
  obtain ⟨w, S, ds, Φ, Ψ, rfl, g, r, h1, q, hx⟩ := hs
  have qr : OkD K w (RetOk S Φ) Q := fun v d w' S' e' g' r' hr => by
    rcases hr with hr | ⟨S1, c, hl, hr⟩
    · exact q v d w' S' e' g' r' hr
    · obtain ⟨e2, g2⟩ := cut_ok g e' g' c
      exact q v d (w'.tk S1.length) S1 e2 g2 (rp_low _ d v r' hl) hr
  refine hb _ _ S _ w _ g (slots_start r) (h ds S Φ Ψ h1) ⟨fun σ' Γ' w' S' e' g' _ h' => qr .non .non w' S' e' g' .non h', qr, fun _ _ _ _ _ _ _ z => z.elim, fun _ _ _ _ _ _ _ z => z.elim, fun _ cv dx x w' S' e' g' r' h' => ?_⟩
  rcases h' with h' | ⟨S1, c, hl, h'⟩
  · exact hx cv dx x w' S' e' g' r' h'
  · obtain ⟨e2, g2⟩ := cut_ok g e' g' c
    refine hx cv dx x (w'.tk S1.length) S1 e2 g2 ⟨r'.1, ?_⟩ h'
    cases dx with
    | none => exact r'.2
    | some a =>
      obtain ⟨vs, k1, k2⟩ := r'.2
      exact ⟨vs, k1, rf_low _ _ _ k2 hl⟩
abbrev FunS (K : PySem.W.Frag) (x : Str) (st : Stmt) (f : Addr) (fd : FuncData) : Prop := FunD K x x (defArgs st) (defBody st) (defScope st) [] [] f fd
section
variable (P : Program) (wd : World) (K : PySem.W.Frag) (mg : Str → Option Value) (base : Heap)
/-- a callee by its name -/
structure Cal (x : Str) (st : Stmt) (k : Nat) (ps : List Str) (sp : DSpec) : Prop where
  ex : ∃ (f : Addr) (fd : FuncData), FnOk P wd K mg base (L2.CX P wd) k f fd ps (spOf K sp) ∧ mg x = some (.ref f) ∧ FunS K x st f fd ∧ Binds K fd ps []
structure CalG (x : Str) (st : Stmt) (k : Nat) (ps : List Str) (sp : DSpec) : Prop where
  ex : ∃ (f : Addr) (fd : FuncData), FnOkG P wd K mg base (L2.CX P wd) k f fd ps (spOf K sp) ∧ mg x = some (.ref f) ∧ FunS K x st f fd ∧ Binds K fd ps []
/-- a class of errors -/
structure ExcF (x : Str) (C : Addr) : Prop where
  q : PySem.W.excIn K C He.veBase "ValueError.__new__" = true
  g : mg x = some (.ref C)
  k : PySem.W.keepIn K (.ref C) = true
  b : PySem.W.subIn K (.ref C) (.type "BaseException") = some true
  t : PySem.W.typeIn K (.ref C) = some (.type "type")
/-- a def of the text -/
structure Tx (x : Str) (st : Stmt) : Prop where
  ex : ∃ (f : Addr) (fd : FuncData), FunS K x st f fd ∧ mg x = some (.ref f)
end
section
variable {P : Program} {wd : World} {K : PySem.W.Frag} {mg : Str → Option Value} {base : Heap} {x : Str} {st : Stmt} {k : Nat} {ps : List Str} {sp : DSpec}
theorem Cal.g (c : Cal P wd K mg base x st k ps sp) : CalG P wd K mg base x st k ps sp := let ⟨f, fd, h, r⟩ := c.ex; ⟨f, fd, FnOkG.of h, r⟩
theorem binds_of {f : Addr} {fd : FuncData} (F : FunS K x st f fd)
    (h : ∀ (kV doc pm : Value) (an : Option Addr) (cdv ct : Value) (us : List Value), us.length = ps.length → bindArgs (PySem.W.fnOf x x (defArgs st) (defBody st) (defScope st) .none kV doc pm an cdv ct) ⟨us, []⟩ = pure (ps.zip us)) : Binds K fd ps [] := F.bindsN h
theorem calG_ok {N : List Str} (F : Tx K mg x st)
    (hbind : ∀ (kV doc pm : Value) (an : Option Addr) (cdv ct : Value) (us : List Value), us.length = ps.length → bindArgs (PySem.W.fnOf x x (defArgs st) (defBody st) (defScope st) .none kV doc pm an cdv ct) ⟨us, []⟩ = pure (ps.zip us))
    (Sc : FnScope N ps (defScope st)) (len : ∀ ds S Φ Ψ, sp ds S Φ Ψ → ds.length = ps.length)
    (hbody : ∀ (f : Addr) (cdv : Value) (A : Around) (outer : List Env) (s : Shared) (H : Hp) (E : XK), (A.deeper (envOfC x (defScope st) s.heap.objs.size f cdv)).guards = some [] → Room k (A.deeper (envOfC x (defScope st) s.heap.objs.size f cdv)) →
      ∃ t T, JB (cxOf (L2.CX P wd) P wd K mg base N x (defScope st) f cdv A outer s H E) (WD E) (defBody st) t T ∧ ∀ ds S Φ Ψ, sp ds S Φ Ψ → T { nx := fun _ S' => RetOk S Φ S' .non, rt := RetOk S Φ, er := ErOk S Ψ } (gstart N ds) S) :
    CalG P wd K mg base x st (k + 1) ps sp := by
  obtain ⟨f, fd, F, hm⟩ := F.ex
  refine ⟨f, fd, ?_, hm, F, binds_of F hbind⟩
  obtain ⟨_, _, _, _, _, _, _, cdv, _, _, e, lk, hcd, _, _⟩ := F.ex
  subst e
  refine fn_ofG lk hcd Sc (fun vs H Q E h => ?_) fun A outer s H vs Q E hG hr hs => ?_
  · obtain ⟨w, S, ds, Φ, Ψ, _, _, r, h1, _⟩ := h
    rw [r.length]
    exact len ds S Φ Ψ h1
  · obtain ⟨t, T, jb, hq⟩ := hbody f cdv A outer s H E (by show A.guards = some []; exact hG) hr
    exact ⟨t, jb.pss, body_ok2 jb.sem hq hs⟩
end
/-- how a call by keywords binds -/
theorem kb_of {K : PySem.W.Frag} {x : Str} {st : Stmt} {ps : List Str} {f : Addr} {fd : FuncData} (F : FunS K x st f fd) (n : Nat) (ks : List Str) (g : {α : Type} → List α → List α → List α)
    (rel : ∀ {vs zs : List V} {us ws : List Value}, Vals vs us → Vals zs ws → Vals (g vs zs) (g us ws))
    (h : ∀ (kV doc pm : Value) (an : Option Addr) (cdv ct : Value) (us ws : List Value), us.length = n → ws.length = ks.length → bindArgs (PySem.W.fnOf x x (defArgs st) (defBody st) (defScope st) .none kV doc pm an cdv ct) ⟨us, ks.zip ws⟩ = pure (ps.zip (g us ws))) : KBn K fd ps n ks (fun us ws => g us ws) (fun vs zs => g vs zs) := by
  obtain ⟨oc, od, dV, kV, doc, pm, an, cdv, ct, osl, e, lk, hcd, hD, hK⟩ := F.ex
  subst e
  rcases hD with ⟨_, rfl⟩ | ⟨e, _⟩
  · exact ⟨fun s us ws _ l1 l2 => .of_eq (h kV doc pm an cdv ct us ws l1 l2), fun r1 r2 => rel r1 r2⟩
  · exact absurd rfl e
section
variable {X : Cx} {W : WX} {e : Expr} {es : List Expr} {pos p : Pos} {tl tk' : TA} {Tl Tk : TL} {k n : Nat} {ps ks : List Str} {sp : DSpec} {x : Str} {st : Stmt} {kws : List Keyword}
theorem je_callCG (c : CalG X.prog X.w X.K X.mg X.base x st k ps sp) (gd : X.A.guards = some []) (hr : Room k X.A) (hg : Gl X x) (tk : Takes X W) (ha : JA X W (e :: es) tl Tl) (hdb : (x == ("__debug__" : Str)) = false := by decide)
    (he : starEach (e :: es) X.env = (false, eval e X.env) :: starEach es X.env := by rfl) (hpl : (backTo pos (starEach es X.env)).any (·.1) = false := by rfl) : JE X W (.Call (.Name x p) (e :: es) [] pos) (tCallS (spOf X.K sp) (WE W) tl) (dCall sp Tl) := by
  obtain ⟨f, fd, F, hm, hk, hb⟩ := c.ex
  exact je_callG F gd hr hg hm hk.kp hb tk ha hdb he hpl
theorem js_raiseC {m : Str} {C : Addr} {j : Nat} {p2 pos' : Pos} (c : ExcF X.K X.mg x C) (hc : X.calm = true) (tk : Takes X W) (hg : Gl X x) (hdb : (x == ("__debug__" : Str)) = false := by decide) :
    JS X W (.Raise (some (.Call (.Name x p) [.Constant (.str m) j p2] [] pos')) none pos) (fun _ σ H => (fun (_ : L2.St) (H : Hp) (Q : XK) => Q (.ref C) none H) σ H fun cls d H' => W cls d σ H') (sRaise C) := js_raise hc tk c.q c.g c.k c.b c.t hg hdb
/-- keywords -/
structure JK (X : Cx) (W : WX) (kws : List Keyword) (t : TA) (T : TL) : Prop where
  pk : PK X kws t
  sem : SemA X.K W t T
theorem jk_nil : JK X W [] tNil lNil := ⟨pk_nil, (ja_nil (X := X)).sem⟩
theorem jk_cons {nm : Option Str} {kpos : Pos} {te : TE} {Te : TD} (ha : JE X W e te Te) (hr : JK X W kws tl Tl) : JK X W (⟨nm, e, kpos⟩ :: kws) (tCons te tl) (lCons Te Tl) := ⟨pk_cons ha.pe hr.pk, fun Γ S Φ Ψ σ w g sl h hx Q q =>
  ha.sem Γ S _ Ψ σ w g sl h hx _ fun v d w1 S1 e1 g1 r1 h1 => hr.sem Γ S1 _ Ψ σ w1 g1 (sl.ext e1) h1 (hx.ext e1) _ fun vs ds w2 S2 e2 g2 r2 h2 => q _ _ w2 S2 (e1.trans e2) g2 (.cons (e2.rp r1) r2) h2⟩
def tCallKS (n m : Nat) (sp : Sp) (gV : List V → List V → List V) (E : L2.St → XK) (t tk : TA) : TE := fun σ H Q => t σ H fun vs H1 => tk σ H1 fun zs H2 => vs.length = n ∧ zs.length = m ∧ sp (gV vs zs) H2 Q (E σ)
def dCallK (n m : Nat) (sp : DSpec) (g : List D → List D → List D) (T Tk : TL) : TD := fun Γ S Φ Ψ => T Γ S (fun S1 ds => Tk Γ S1 (fun S2 es => ds.length = n ∧ es.length = m ∧ sp (g ds es) S2 Φ Ψ) Ψ) Ψ
theorem sem_callK {K : PySem.W.Frag} {n m : Nat} {sp : DSpec} {gV : List V → List V → List V} {gD : List D → List D → List D} (hg : ∀ (w : Hs) {vs zs : List V} {ds es : List D}, Ra K w vs ds → Ra K w zs es → Ra K w (gV vs zs) (gD ds es)) (h : SemA K W tl Tl) (h2 : SemA K W tk' Tk) :
    SemE K W (tCallKS n m (spOf K sp) gV (WE W) tl tk') (dCallK n m sp gD Tl Tk) := fun Γ S Φ Ψ σ w g sl hT hx Q q =>
  h Γ S _ Ψ σ w g sl hT hx _ fun vs ds w1 S1 e1 g1 r1 h1 => h2 Γ S1 _ Ψ σ w1 g1 (sl.ext e1) h1 (hx.ext e1) _ fun zs es w2 S2 e2 g2 r2 ⟨l1, l2, h3⟩ =>
    have e12 := e1.trans e2
    ⟨by rw [r1.length]; exact l1, by rw [r2.length]; exact l2, w2, S2, _, Φ, Ψ, rfl, g2, hg w2 (e2.ra r1) r2, h3, q.ext e12, fun cv dx x w' S' e g r hΨ => hx.ext e12 cv dx x w' S' e g r hΨ⟩
/-- the callee's run, by keywords -/
theorem goK {gl : List Value → List Value → List Value} {gV : List V → List V → List V} {s0 : Sp} {f : Addr} {fd : FuncData} {pins : List (Addr × Obj)} {σ : L2.St} {H : Hp} {s : Shared} {Q : VK} {us ws : List Value} {vs zs : List V} (F : FnOkG X.prog X.w X.K X.mg X.base (L2.CX X.prog X.w) k f fd ps s0) (gd : X.A.guards = some []) (room : Room k X.A) (hb : KBn X.K fd ps n ks gl gV) (tk : Takes X W)
    (I : Inv X pins σ H s) (r : Vals vs us) (rz : Vals zs ws) (l1 : vs.length = n) (l2 : zs.length = ks.length) (h : s0 (gV vs zs) H Q (WE W σ)) : wpAny (model X.prog X.w) X.A (call (.ref f) us (ks.zip ws)) (EP X pins σ Q) X.xe s := by
  have bi := hb.to s us ws I.kIn (by rw [← r.length]; exact l1) (by rw [← rz.length]; exact l2)
  refine wpAny_call (codeAny_mono (F.go _ _ s H _ _ _ Q _ gd room I.env0 bi (hb.rel r rz) h) fun rr s2 hq => ?_)
  match rr, hq with
  | .error u, hq => exact passAt tk σ pins H s u s2 I hq
  | .ok (.ret u), hq => exact I.after hq
  | .ok .next, hq => exact False.elim hq
  | .ok .brk, hq => exact False.elim hq
  | .ok .cont, hq => exact False.elim hq
theorem je_callK0 {g : {α : Type} → List α → List α → List α} (c : CalG X.prog X.w X.K X.mg X.base x st k ps sp) (gd : X.A.guards = some []) (hr : Room k X.A) (hg : Gl X x) (tk : Takes X W) (hb : ∀ f fd, FunS X.K x st f fd → KBn X.K fd ps 0 ks (fun us ws => g us ws) (fun vs zs => g vs zs))
    (rel : ∀ (w : Hs) {vs zs : List V} {ds es : List D}, Ra X.K w vs ds → Ra X.K w zs es → Ra X.K w (g vs zs) (g ds es)) (hkw : JK X W kws tk' Tk)
    (hall : (backToKw pos (keywordEach kws X.env)).all (·.1.isSome) = true := by rfl) (hks : (backToKw pos (keywordEach kws X.env)).filterMap (·.1) = ks := by rfl) (hdb : (x == ("__debug__" : Str)) = false := by decide)
    (hpl : ((backTo pos (starEach [] X.env)).any (·.1) || (backToKw pos (keywordEach kws X.env)).any (·.1.isNone)) = false := by rfl) :
    JE X W (.Call (.Name x p) [] kws pos) (tCallKS 0 ks.length (spOf X.K sp) (fun vs zs => g vs zs) (WE W) tNil tk') (dCallK 0 ks.length sp (fun ds es => g ds es) lNil Tk) := by
  obtain ⟨f, fd, F, hm, hk, _⟩ := c.ex
  refine ⟨⟨fun pins s σ H Q I h => wpAny_Call_Name_kw (ld_glob I hg hm (PySem.W.callWith_KW0 (h₀ := X.base) I.ok.mod.kin hk.kp hall ?_ hpl) hdb)⟩, sem_callK rel (ja_nil (X := X)).sem hkw.sem⟩
  refine thn (hkw.pk.run pos pins s σ H _ I h) fun ws s2 ⟨zs, H2, I2, rz, l1, l2, q2⟩ => ?_
  rw [hks]
  exact ⟨I2.kIn, goK F gd hr (hb f fd hk) tk I2 .nil rz l1 l2 q2⟩
end
end DL
namespace DL
open PySem PySem.Spec PyProof.Rows L2
section
variable {X : Cx} {W : WX} {a b c : Expr} {pos : Pos} {tl : TA} {Tl : TL}
def sPar3 (i j l : Nat) (T : TL) : TSd := fun D Γ S => T Γ S (fun S1 ds => ∃ x y z, ds = [x, y, z] ∧ D.nx (((Γ.set i (some x)).set j (some y)).set l (some z)) S1) D.er
end
def pick {α : Type} (perm : List Nat) (as es : List α) : List α := perm.filterMap fun i => (as ++ es)[i]?
theorem pick_vals {vs zs : List V} {us ws : List Value} (h : Vals vs us) (h2 : Vals zs ws) : ∀ perm : List Nat, Vals (pick perm vs zs) (pick perm us ws)
  | [] => .nil
  | i :: r => by
    have ih := pick_vals h h2 r
    have ap := Vals.append h h2
    unfold pick at ih ⊢
    rw [List.filterMap_cons, List.filterMap_cons]
    cases e : (vs ++ zs)[i]? with
    | none => rw [ap.none_of e]; exact ih
    | some v =>
      obtain ⟨u, e2, r2⟩ := ap.get e
      rw [e2]
      exact .cons r2 ih
theorem pick_ra {K : PySem.W.Frag} {w : Hs} {vs zs : List V} {ds es : List D} (h : Ra K w vs ds) (h2 : Ra K w zs es) : ∀ perm : List Nat, Ra K w (pick perm vs zs) (pick perm ds es)
  | [] => .nil
  | i :: r => by
    have ih := pick_ra h h2 r
    have ap := RpA.append h h2
    unfold pick at ih ⊢
    rw [List.filterMap_cons, List.filterMap_cons]
    cases e : (vs ++ zs)[i]? with
    | none =>
      have e2 : (ds ++ es)[i]? = none := by
        have h1 := List.getElem?_eq_none_iff.mp e
        rw [ap.length] at h1
        exact List.getElem?_eq_none h1
      rw [e2]; exact ih
    | some v =>
      obtain ⟨u, e2, r2⟩ := ap.getV e
      rw [e2]
      exact .cons r2 ih
/-- x += e of ints -/
theorem ipd_int {K : PySem.W.Frag} {f : Int → Int → Int} : IpD K (ipI f) (iOp0 fun i j => .int (f i j)) := fun w S x y u v Φ Q g r1 r2 h q => by
  cases u with
  | int i =>
    cases v with
    | int j => exact ⟨i, j, rv_int r1, rv_int r2, q _ _ w S (Ext.refl w) g (.int _) h⟩
    | _ => exact h.elim
  | _ => cases v <;> exact h.elim
theorem lowA_ints (n : Nat) : ∀ xs : List Int, lowA n (xs.map D.int) = true
  | [] => by simp [lowA]
  | x :: xs => by rw [List.map_cons, lowA, lowA_ints n xs, D.low] <;> rfl
theorem lowA_map {α : Type} (n : Nat) (f : α → D) (h : ∀ x, (f x).low n = true) : ∀ xs : List α, lowA n (xs.map f) = true
  | [] => by simp [lowA]
  | x :: xs => by rw [List.map_cons, lowA, lowA_map n f h xs, h] <;> rfl
theorem get_app {S T : Sto} {h : Nat} {c : Cell} (e : S[h]? = some c) : (S ++ T)[h]? = some c := by
  rw [List.getElem?_append_left (List.getElem?_eq_some_iff.mp e).1]
  exact e
theorem get_at {S T : Sto} {c : Cell} : (S ++ c :: T)[S.length]? = some c := by
  rw [List.getElem?_append_right (Nat.le_refl _), Nat.sub_self] <;> rfl
theorem set_app {S T : Sto} {h : Nat} {c : Cell} (e : h < S.length) : (S ++ T).set h c = S.set h c ++ T := List.set_append_left h c e
theorem set_at {S T : Sto} {b c : Cell} : (S ++ b :: T).set S.length c = S ++ c :: T := by
  rw [List.set_append_right _ _ (Nat.le_refl _), Nat.sub_self] <;> rfl
def FdC (n : Nat) (c : Cell) : Prop := ∃ a b k : Int, c = .lst [.int a, .int b, .int k] ∧ 0 ≤ a ∧ 0 ≤ b ∧ b < 2 ^ 200 ∧ 0 ≤ k ∧ k ≤ n
def FdAt (S : Sto) (h : Nat) (n : Nat) : Prop := ∃ c, S[h]? = some c ∧ FdC n c
/-- S' is S but for the feed at h -/
def Fs (h n : Nat) (S S' : Sto) : Prop := ∃ c, FdC n c ∧ S' = S.set h c
theorem FdC.mono {n m : Nat} {c : Cell} (h : FdC n c) (l : n ≤ m) : FdC m c := by
  obtain ⟨a, b, k, e, h1, h2, h3, h4, h5⟩ := h
  exact ⟨a, b, k, e, h1, h2, h3, h4, by omega⟩
theorem FdAt.mono {S : Sto} {h n m : Nat} (f : FdAt S h n) (l : n ≤ m) : FdAt S h m := let ⟨c, e, q⟩ := f; ⟨c, e, q.mono l⟩
theorem FdAt.lt {S : Sto} {h n : Nat} (f : FdAt S h n) : h < S.length := let ⟨_, e, _⟩ := f; (List.getElem?_eq_some_iff.mp e).1
theorem Fs.mono {h n m : Nat} {S S' : Sto} (f : Fs h n S S') (l : n ≤ m) : Fs h m S S' := let ⟨c, q, e⟩ := f; ⟨c, q.mono l, e⟩
theorem Fs.at {h n : Nat} {S S' : Sto} (f : Fs h n S S') (hl : h < S.length) : FdAt S' h n := by
  obtain ⟨c, q, rfl⟩ := f
  exact ⟨c, by rw [List.getElem?_set_self hl], q⟩
theorem Fs.refl {h n : Nat} {S : Sto} (f : FdAt S h n) : Fs h n S S := by
  obtain ⟨c, e, q⟩ := f
  refine ⟨c, q, ?_⟩
  obtain ⟨hl, e2⟩ := List.getElem?_eq_some_iff.mp e
  rw [← e2, List.set_getElem_self]
theorem Fs.trans {h n m : Nat} {S S1 S2 : Sto} (a : Fs h n S S1) (b : Fs h m S1 S2) : Fs h m S S2 := by
  obtain ⟨c, _, rfl⟩ := a
  obtain ⟨c2, q, rfl⟩ := b
  exact ⟨c2, q, by rw [List.set_set]⟩
theorem Fs.len {h n : Nat} {S S' : Sto} (f : Fs h n S S') : S'.length = S.length := by
  obtain ⟨c, _, rfl⟩ := f
  rw [List.length_set]
/-- cells behind it stay -/
theorem Fs.app {h n : Nat} {S T S' : Sto} (f : Fs h n (S ++ T) S') (hl : h < S.length) : ∃ S1, Fs h n S S1 ∧ S' = S1 ++ T := by
  obtain ⟨c, q, rfl⟩ := f
  exact ⟨S.set h c, ⟨c, q, rfl⟩, set_app hl⟩
theorem FdAt.app {S T : Sto} {h n : Nat} (f : FdAt S h n) : FdAt (S ++ T) h n := let ⟨c, e, q⟩ := f; ⟨c, get_app e, q⟩
theorem Fs.get {h n i : Nat} {S S' : Sto} {c : Cell} (f : Fs h n S S') (e : S[i]? = some c) (hi : h ≠ i) : S'[i]? = some c := by
  obtain ⟨c2, _, rfl⟩ := f
  rw [List.getElem?_set_ne hi]
  exact e
end DL
namespace DL
open PySem PySem.Spec PyProof.Rows L2
def fzLD : List D → Sto → (Sto → List D → Prop) → Prop
  | [], S, Φ => Φ S []
  | d :: ds, S, Φ => fzD d S fun S1 d' => fzLD ds S1 fun S2 ds' => Φ S2 (d' :: ds')
theorem fzL_ok {K : PySem.W.Frag} : ∀ {ds : List D} {vs : List V} {w : Hs} {S : Sto} {Φ : Sto → List D → Prop} {Q : List V → Hp → Prop}, Good K w S → Ra K w vs ds → fzLD ds S Φ → OkL K w Φ Q → Q vs w.H
  | [], _, w, S, Φ, Q, g, .nil, h, q => q [] [] w S (Ext.refl w) g .nil h
  | d :: ds, v :: vs, w, S, Φ, Q, g, .cons r1 r2, h, q => by
    refine fz_ok (Q := fun v' H' => Q (v' :: vs) H') g r1 h fun v' d' w' S' e' g' r' h' => ?_
    exact fzL_ok (Q := fun vs' H' => Q (v' :: vs') H') g' (e'.ra r2) h' fun vs2 ds2 w2 S2 e2 g2 ra2 h2 => q _ _ w2 S2 (e'.trans e2) g2 (.cons (e2.rp r') ra2) h2
def fzD2 (d : D) (S : Sto) (Φ : KD) : Prop := match d with
  | .own h => ∃ ds, S[h]? = some (.lst ds) ∧ fzLD ds (S.set h .gone) fun S' ds' => Φ S' (.lst ds')
  | d => Φ S d
def dFz2 (T : TD) : TD := fun Γ S Φ Ψ => T Γ S (fun S1 d => fzD2 d S1 Φ) Ψ
theorem fz2_ok {K : PySem.W.Frag} {w : Hs} {S : Sto} (g : Good K w S) {Φ : KD} {Q : VK} {v : V} {d : D} (r : Rv K w v d) (h : fzD2 d S Φ) (q : OkD K w Φ Q) : Q v w.H := by
  have other : Φ S d → Q v w.H := fun z => q v d w S (Ext.refl w) g r z
  cases d with
  | own hh =>
    obtain ⟨ds, e, hΦ⟩ := h
    obtain ⟨a, xs, rfl, ha, hH, ra⟩ := own_at g r e
    have hm : a ∈ w.al := List.mem_of_getElem? ha
    have hF : w.F a = none := (g.cell hh a _ ha e).1
    have ee : Ext w (w.fz a (.lst xs)) := Ext.fz hm hF
    refine fzL_ok (Q := fun vs' H' => vs' = xs → Q (.ref a) H') (w := w.fz a (.lst xs)) (g.fz ha e hH) (ee.ra ra) hΦ (fun vs' ds' w2 S2 e2 g2 r2 h2 hv => ?_) rfl
    subst hv
    exact q (.ref a) (.lst ds') w2 S2 (ee.trans e2) g2 (.lst (e2.f _ _ upd_same) r2) h2
  | _ => exact other h
theorem je_fz2 {X : Cx} {W : WX} {e : Expr} {t : TE} {T : TD} (h : JE X W e t T) : JE X W e t (dFz2 T) := ⟨h.pe, fun Γ S Φ Ψ σ w g sl hT hx Q q =>
  h.sem Γ S _ Ψ σ w g sl hT hx Q fun v d w1 S1 e1 g1 r1 h1 => fz2_ok g1 r1 h1 (q.ext e1)⟩
section
variable {S : Sto} {Φ : KD} {i j : Int} {ds es : List D} {k : Bool}
theorem ex1 {α : Type} {a : α} {P : α → Prop} : (∃ x, [a] = [x] ∧ P x) ↔ P a := ⟨fun ⟨x, e, h⟩ => by cases e; exact h, fun h => ⟨a, rfl, h⟩⟩
theorem ex2 {α : Type} {a b : α} {P : α → α → Prop} : (∃ x y, [a, b] = [x, y] ∧ P x y) ↔ P a b := ⟨fun ⟨x, y, e, h⟩ => by cases e; exact h, fun h => ⟨a, b, rfl, h⟩⟩
theorem ex3 {α : Type} {a b c : α} {P : α → α → α → Prop} : (∃ x y z, [a, b, c] = [x, y, z] ∧ P x y z) ↔ P a b c := ⟨fun ⟨x, y, z, e, h⟩ => by cases e; exact h, fun h => ⟨a, b, c, rfl, h⟩⟩
theorem exB {b : Bool} {P : Bool → Prop} : (∃ k, D.bl b = .bl k ∧ P k) ↔ P b := ⟨fun ⟨x, e, h⟩ => by cases e; exact h, fun h => ⟨b, rfl, h⟩⟩
theorem exI {b : Int} {P : Int → Prop} : (∃ k, D.int b = .int k ∧ P k) ↔ P b := ⟨fun ⟨x, e, h⟩ => by cases e; exact h, fun h => ⟨b, rfl, h⟩⟩
theorem exI1 {b : Int} {P : Int → Prop} : (∃ k, [D.int b] = [.int k] ∧ P k) ↔ P b := ⟨fun ⟨x, e, h⟩ => by cases e; exact h, fun h => ⟨b, rfl, h⟩⟩
theorem exI2 {a b : Int} {P : Int → Int → Prop} : (∃ i j, [D.int a, D.int b] = [.int i, .int j] ∧ P i j) ↔ P a b := ⟨fun ⟨x, y, e, h⟩ => by cases e; exact h, fun h => ⟨a, b, rfl, h⟩⟩
theorem exS {α : Type} {a : α} {P : α → Prop} : (∃ d, some a = some d ∧ P d) ↔ P a := ⟨fun ⟨x, e, h⟩ => by cases e; exact h, fun h => ⟨a, rfl, h⟩⟩
theorem exSS {α : Type} {a : α} {P : α → Prop} : (∃ d, some (some a) = some (some d) ∧ P d) ↔ P a := ⟨fun ⟨x, e, h⟩ => by cases e; exact h, fun h => ⟨a, rfl, h⟩⟩
theorem exT {ts : List D} {P : List D → Prop} : (∃ ds, D.tup ts = .tup ds ∧ P ds) ↔ P ts := ⟨fun ⟨x, e, h⟩ => by cases e; exact h, fun h => ⟨ts, rfl, h⟩⟩
theorem exC {α : Type} {a : α} {l : List α} {P : α → List α → Prop} : (∃ d r, a :: l = d :: r ∧ P d r) ↔ P a l := ⟨fun ⟨x, y, e, h⟩ => by cases e; exact h, fun h => ⟨a, l, rfl, h⟩⟩
theorem exL {a : List D} {P : List D → Prop} : (∃ d, some (Cell.lst a) = some (.lst d) ∧ P d) ↔ P a := ⟨fun ⟨x, e, h⟩ => by cases e; exact h, fun h => ⟨a, rfl, h⟩⟩
theorem exAs {a : List D} {P : List D → Prop} : (∃ xs, some a = some xs ∧ P xs) ↔ P a := ⟨fun ⟨x, e, h⟩ => by cases e; exact h, fun h => ⟨a, rfl, h⟩⟩
theorem dAdd_i : dAdd (.int i) (.int j) S Φ = Φ S (.int (i + j)) := rfl
theorem dAdd_l : dAdd (.lst ds) (.lst es) S Φ = (ds.length + es.length ≤ sizeLine ∧ Φ S (.lst (ds ++ es))) := by
  show (∃ xs ys, some ds = some xs ∧ some es = some ys ∧ xs.length + ys.length ≤ sizeLine ∧ Φ S (.lst (xs ++ ys))) = _
  exact propext ⟨fun ⟨_, _, e1, e2, h⟩ => by cases e1; cases e2; exact h, fun h => ⟨_, _, rfl, rfl, h⟩⟩
theorem dSub_i : dSub (.int i) (.int j) S Φ = Φ S (.int (i - j)) := rfl
theorem dMul_i : dMul (.int i) (.int j) S Φ = (CMulA i j ∧ Φ S (.int (i * j))) := rfl
theorem dMul_l : dMul (.lst ds) (.int j) S Φ = (-(2 ^ 63) ≤ j ∧ j < 2 ^ 63 ∧ ds.length * j.toNat ≤ sizeLine ∧ Φ S (.lst ((List.replicate j.toNat ds).flatten))) := by
  show (∃ xs, some ds = some xs ∧ _) = _
  exact propext exAs
theorem dMod_i : dMod (.int i) (.int j) S Φ = (0 < j ∧ Φ S (.int (i % j))) := rfl
theorem dDiv_i : dDiv (.int i) (.int j) S Φ = (CDivW i j ∧ Φ S (.int (i / j))) := rfl
theorem dPow_i : dPow (.int i) (.int j) S Φ = (CPowW i j ∧ Φ S (.int (i ^ j.toNat))) := rfl
theorem dLt_i : dLt (.int i) (.int j) S Φ = Φ S (.bl (decide (i < j))) := rfl
theorem dLe_i : dLe (.int i) (.int j) S Φ = Φ S (.bl (decide (i ≤ j))) := rfl
theorem dGt_i : dGt (.int i) (.int j) S Φ = Φ S (.bl (decide (j < i))) := rfl
theorem dGe_i : dGe (.int i) (.int j) S Φ = Φ S (.bl (decide (j ≤ i))) := rfl
theorem uNeg_i : uNeg (.int i) S Φ = Φ S (.int (-i)) := rfl
theorem cMax2_i : cMax2 [.int i, .int j] S Φ = Φ S (.int (if j > i then j else i)) := rfl
theorem cMin2_i : cMin2 [.int i, .int j] S Φ = Φ S (.int (if j < i then j else i)) := rfl
theorem cAbs_i : cAbs [.int i] S Φ = Φ S (.int (if i < 0 then -i else i)) := rfl
theorem cInt_i : cInt [.int i] S Φ = Φ S (.int i) := rfl
theorem cInt_b : cInt [.bl k] S Φ = Φ S (.int (if k then 1 else 0)) := rfl
theorem cLen_l : cLen [.lst ds] S Φ = Φ S (.int ds.length) := by
  show (∃ xs, some ds = some xs ∧ Φ S (.int xs.length)) = _
  exact propext exAs
theorem cLen_q : cLen [.sq ds] S Φ = Φ S (.int ds.length) := by
  show (∃ xs, some ds = some xs ∧ Φ S (.int xs.length)) = _
  exact propext exAs
theorem cLen_t : cLen [.tup ds] S Φ = Φ S (.int ds.length) := by
  show (∃ xs, some ds = some xs ∧ Φ S (.int xs.length)) = _
  exact propext exAs
theorem cList_l : cList [.lst ds] S Φ = Φ S (.lst ds) := propext exAs
theorem cList_q : cList [.sq ds] S Φ = Φ S (.lst ds) := propext exAs
theorem cList_t : cList [.tup ds] S Φ = Φ S (.lst ds) := propext exAs
theorem cListO_l : cListO [.lst ds] S Φ = Φ (S ++ [.lst ds]) (.own S.length) := propext exAs
theorem cListO_t : cListO [.tup ds] S Φ = Φ (S ++ [.lst ds]) (.own S.length) := propext exAs
theorem dIx_l : dIx (.lst ds) (.int i) S Φ = ∃ d, atI ds i = some d ∧ Φ S d := by
  show (∃ es d, some ds = some es ∧ atI es i = some d ∧ Φ S d) = _
  exact propext ⟨fun ⟨_, d, e, h⟩ => by cases e; exact ⟨d, h⟩, fun ⟨d, h⟩ => ⟨_, d, rfl, h⟩⟩
theorem dIx_q : dIx (.sq ds) (.int i) S Φ = ∃ d, atI ds i = some d ∧ Φ S d := by
  show (∃ es d, some ds = some es ∧ atI es i = some d ∧ Φ S d) = _
  exact propext ⟨fun ⟨_, d, e, h⟩ => by cases e; exact ⟨d, h⟩, fun ⟨d, h⟩ => ⟨_, d, rfl, h⟩⟩
theorem dIx_t : dIx (.tup ds) (.int i) S Φ = ∃ d, atI ds i = some d ∧ Φ S d := by
  show (∃ es d, some ds = some es ∧ atI es i = some d ∧ Φ S d) = _
  exact propext ⟨fun ⟨_, d, e, h⟩ => by cases e; exact ⟨d, h⟩, fun ⟨d, h⟩ => ⟨_, d, rfl, h⟩⟩
theorem dIx_o {h : Nat} : dIx (.own h) (.int i) S Φ = ∃ ds d, S[h]? = some (.lst ds) ∧ atI ds i = some d ∧ Φ S d := by
  show (∃ es d, asS S (.own h) = some es ∧ atI es i = some d ∧ Φ S d) = _
  refine propext ⟨fun ⟨es, d, e, q⟩ => ?_, fun ⟨es, d, e, q⟩ => ⟨es, d, ?_, q⟩⟩
  · have e : (match S[h]? with | some (.lst ds) => some ds | _ => none) = some es := e
    split at e
    · cases e; exact ⟨es, d, by assumption, q⟩
    · cases e
  · show (match S[h]? with | some (.lst ds) => some ds | _ => none) = some es
    rw [e]
theorem dSlL_l {lo hi : Option Int} : dSlL (.lst ds) lo hi S Φ = Φ S (.lst (cutD ds lo hi)) := propext exAs
theorem dSlL_q {lo hi : Option Int} : dSlL (.sq ds) lo hi S Φ = Φ S (.lst (cutD ds lo hi)) := propext exAs
theorem asQ_l : asQ S (.lst ds) = some ds := rfl
theorem asL_l : asL S (.lst ds) = some ds := rfl
theorem asL_at' {h : Nat} (e : S[h]? = some (.lst ds)) : asL S (.own h) = some ds := by
  show (match S[h]? with | some (.lst ds) => some ds | _ => none) = some ds
  rw [e]
theorem asQ_at' {h : Nat} (e : S[h]? = some (.lst ds)) : asQ S (.own h) = some ds := by
  show (match S[h]? with | some (.lst ds) => some ds | _ => none) = some ds
  rw [e]
theorem cIsi_of {d : D} {a n : String} (e : tyOf S d = some a) (h : n ∈ tyN := by decide) : cIsi [d, .ty n] S Φ = Φ S (.bl (isTyB a n)) := by
  show (∃ a, tyOf S d = some a ∧ n ∈ tyN ∧ Φ S (.bl (isTyB a n))) = _
  rw [e]
  exact propext ⟨fun ⟨_, e, _, z⟩ => by cases e; exact z, fun z => ⟨_, rfl, h, z⟩⟩
theorem isi_non_int  : cIsi [.non, .ty "int"] S Φ = Φ S (.bl false) := cIsi_of (a := "NoneType") rfl
theorem isi_non_bool  : cIsi [.non, .ty "bool"] S Φ = Φ S (.bl false) := cIsi_of (a := "NoneType") rfl
theorem isi_non_str  : cIsi [.non, .ty "str"] S Φ = Φ S (.bl false) := cIsi_of (a := "NoneType") rfl
theorem isi_non_list  : cIsi [.non, .ty "list"] S Φ = Φ S (.bl false) := cIsi_of (a := "NoneType") rfl
theorem isi_non_tuple  : cIsi [.non, .ty "tuple"] S Φ = Φ S (.bl false) := cIsi_of (a := "NoneType") rfl
theorem isi_non_dict  : cIsi [.non, .ty "dict"] S Φ = Φ S (.bl false) := cIsi_of (a := "NoneType") rfl
theorem isi_bl_int {b : Bool} : cIsi [.bl b, .ty "int"] S Φ = Φ S (.bl true) := cIsi_of (a := "bool") rfl
theorem isi_bl_bool {b : Bool} : cIsi [.bl b, .ty "bool"] S Φ = Φ S (.bl true) := cIsi_of (a := "bool") rfl
theorem isi_bl_str {b : Bool} : cIsi [.bl b, .ty "str"] S Φ = Φ S (.bl false) := cIsi_of (a := "bool") rfl
theorem isi_bl_list {b : Bool} : cIsi [.bl b, .ty "list"] S Φ = Φ S (.bl false) := cIsi_of (a := "bool") rfl
theorem isi_bl_tuple {b : Bool} : cIsi [.bl b, .ty "tuple"] S Φ = Φ S (.bl false) := cIsi_of (a := "bool") rfl
theorem isi_bl_dict {b : Bool} : cIsi [.bl b, .ty "dict"] S Φ = Φ S (.bl false) := cIsi_of (a := "bool") rfl
theorem isi_int_int  : cIsi [.int i, .ty "int"] S Φ = Φ S (.bl true) := cIsi_of (a := "int") rfl
theorem isi_int_bool  : cIsi [.int i, .ty "bool"] S Φ = Φ S (.bl false) := cIsi_of (a := "int") rfl
theorem isi_int_str  : cIsi [.int i, .ty "str"] S Φ = Φ S (.bl false) := cIsi_of (a := "int") rfl
theorem isi_int_list  : cIsi [.int i, .ty "list"] S Φ = Φ S (.bl false) := cIsi_of (a := "int") rfl
theorem isi_int_tuple  : cIsi [.int i, .ty "tuple"] S Φ = Φ S (.bl false) := cIsi_of (a := "int") rfl
theorem isi_int_dict  : cIsi [.int i, .ty "dict"] S Φ = Φ S (.bl false) := cIsi_of (a := "int") rfl
theorem isi_str_int {z : Str} : cIsi [.str z, .ty "int"] S Φ = Φ S (.bl false) := cIsi_of (a := "str") rfl
theorem isi_str_bool {z : Str} : cIsi [.str z, .ty "bool"] S Φ = Φ S (.bl false) := cIsi_of (a := "str") rfl
theorem isi_str_str {z : Str} : cIsi [.str z, .ty "str"] S Φ = Φ S (.bl true) := cIsi_of (a := "str") rfl
theorem isi_str_list {z : Str} : cIsi [.str z, .ty "list"] S Φ = Φ S (.bl false) := cIsi_of (a := "str") rfl
theorem isi_str_tuple {z : Str} : cIsi [.str z, .ty "tuple"] S Φ = Φ S (.bl false) := cIsi_of (a := "str") rfl
theorem isi_str_dict {z : Str} : cIsi [.str z, .ty "dict"] S Φ = Φ S (.bl false) := cIsi_of (a := "str") rfl
theorem isi_lst_int  : cIsi [.lst ds, .ty "int"] S Φ = Φ S (.bl false) := cIsi_of (a := "list") rfl
theorem isi_lst_bool  : cIsi [.lst ds, .ty "bool"] S Φ = Φ S (.bl false) := cIsi_of (a := "list") rfl
theorem isi_lst_str  : cIsi [.lst ds, .ty "str"] S Φ = Φ S (.bl false) := cIsi_of (a := "list") rfl
theorem isi_lst_list  : cIsi [.lst ds, .ty "list"] S Φ = Φ S (.bl true) := cIsi_of (a := "list") rfl
theorem isi_lst_tuple  : cIsi [.lst ds, .ty "tuple"] S Φ = Φ S (.bl false) := cIsi_of (a := "list") rfl
theorem isi_lst_dict  : cIsi [.lst ds, .ty "dict"] S Φ = Φ S (.bl false) := cIsi_of (a := "list") rfl
theorem isi_sq_int  : cIsi [.sq ds, .ty "int"] S Φ = Φ S (.bl false) := cIsi_of (a := "list") rfl
theorem isi_sq_bool  : cIsi [.sq ds, .ty "bool"] S Φ = Φ S (.bl false) := cIsi_of (a := "list") rfl
theorem isi_sq_str  : cIsi [.sq ds, .ty "str"] S Φ = Φ S (.bl false) := cIsi_of (a := "list") rfl
theorem isi_sq_list  : cIsi [.sq ds, .ty "list"] S Φ = Φ S (.bl true) := cIsi_of (a := "list") rfl
theorem isi_sq_tuple  : cIsi [.sq ds, .ty "tuple"] S Φ = Φ S (.bl false) := cIsi_of (a := "list") rfl
theorem isi_sq_dict  : cIsi [.sq ds, .ty "dict"] S Φ = Φ S (.bl false) := cIsi_of (a := "list") rfl
theorem isi_tup_int  : cIsi [.tup ds, .ty "int"] S Φ = Φ S (.bl false) := cIsi_of (a := "tuple") rfl
theorem isi_tup_bool  : cIsi [.tup ds, .ty "bool"] S Φ = Φ S (.bl false) := cIsi_of (a := "tuple") rfl
theorem isi_tup_str  : cIsi [.tup ds, .ty "str"] S Φ = Φ S (.bl false) := cIsi_of (a := "tuple") rfl
theorem isi_tup_list  : cIsi [.tup ds, .ty "list"] S Φ = Φ S (.bl false) := cIsi_of (a := "tuple") rfl
theorem isi_tup_tuple  : cIsi [.tup ds, .ty "tuple"] S Φ = Φ S (.bl true) := cIsi_of (a := "tuple") rfl
theorem isi_tup_dict  : cIsi [.tup ds, .ty "dict"] S Φ = Φ S (.bl false) := cIsi_of (a := "tuple") rfl
theorem isi_dic_int {kv : List (Key × D)} : cIsi [.dic kv, .ty "int"] S Φ = Φ S (.bl false) := cIsi_of (a := "dict") rfl
theorem isi_dic_bool {kv : List (Key × D)} : cIsi [.dic kv, .ty "bool"] S Φ = Φ S (.bl false) := cIsi_of (a := "dict") rfl
theorem isi_dic_str {kv : List (Key × D)} : cIsi [.dic kv, .ty "str"] S Φ = Φ S (.bl false) := cIsi_of (a := "dict") rfl
theorem isi_dic_list {kv : List (Key × D)} : cIsi [.dic kv, .ty "list"] S Φ = Φ S (.bl false) := cIsi_of (a := "dict") rfl
theorem isi_dic_tuple {kv : List (Key × D)} : cIsi [.dic kv, .ty "tuple"] S Φ = Φ S (.bl false) := cIsi_of (a := "dict") rfl
theorem isi_dic_dict {kv : List (Key × D)} : cIsi [.dic kv, .ty "dict"] S Φ = Φ S (.bl true) := cIsi_of (a := "dict") rfl
theorem at_0 {α : Type} {a : α} {l : List α} : atI (a :: l) 0 = some a := by
  unfold atI ixN
  rw [if_pos (by decide), if_pos (by rw [List.length_cons]; omega)]
  rfl
theorem at_nat {α : Type} {l : List α} {n : Nat} : atI l (n : Int) = l[n]? := by
  unfold atI ixN
  rw [if_pos (by omega)]
  by_cases h : n < l.length
  · rw [if_pos (by omega)]; rfl
  · rw [if_neg (by omega), List.getElem?_eq_none (by omega)] <;> rfl
end
theorem strOk_lit {s : String} : PyData.strOk (Str.ofString s) = true := by
  unfold PyData.strOk
  rw [Str.ofString_eq_toList, List.all_toArray, List.all_eq_true]
  intro x hx
  obtain ⟨c, _, rfl⟩ := List.mem_map.mp hx
  have h : UInt32.isValidChar c.val := c.valid
  simp only [UInt32.isValidChar, Nat.isValidChar] at h
  rw [decide_eq_true_eq]
  show c.val.toNat < _
  omega
theorem strOk_app {a b : Str} (h : PyData.strOk a = true) (h2 : PyData.strOk b = true) : PyData.strOk (a ++ b) = true := by
  unfold PyData.strOk at h h2 ⊢
  show (a.cps ++ b.cps).all _ = true
  rw [Array.all_append, h, h2]
  rfl
theorem strOk_from : ∀ {ts : List Str} {k : Nat} {acc : Str}, PyData.strOk acc = true → (∀ t ∈ ts, PyData.strOk t = true) → PyData.strOk (textFrom k acc ts) = true
  | [], _, _, h, _ => h
  | t :: ts, k, acc, h, h2 => strOk_from (ts := ts) (k := k + 1) (acc := acc ++ (if k > 0 then ", " else "" : String) ++ t) (strOk_app (strOk_app h strOk_lit) (h2 t List.mem_cons_self)) fun u hu => h2 u (List.mem_cons_of_mem _ hu)
theorem strOk_listText {ts : List Str} (h : ∀ t ∈ ts, PyData.strOk t = true) : PyData.strOk (listText ts) = true := strOk_app (strOk_from strOk_lit h) strOk_lit
theorem len_app (a b : Str) : (a ++ b).length = a.length + b.length := strLen_append a b
theorem from_le {m : Nat} : ∀ {ts : List Str} {k : Nat} {acc : Str}, (∀ t ∈ ts, t.length ≤ m) → (textFrom k acc ts).length ≤ acc.length + ts.length * (m + 2)
  | [], _, acc, _ => by show acc.length ≤ _; omega
  | t :: ts, k, acc, h => by
    have ih := from_le (m := m) (ts := ts) (k := k + 1) (acc := acc ++ (if k > 0 then ", " else "" : String) ++ t) fun u hu => h u (List.mem_cons_of_mem _ hu)
    have h1 := h t List.mem_cons_self
    have e : (Str.ofString (if k > 0 then ", " else "")).length ≤ 2 := by
      split
      · rw [PySem.ofString_length]; decide
      · rw [PySem.ofString_length]; decide
    rw [len_app, len_app] at ih
    show (textFrom (k + 1) _ ts).length ≤ _
    rw [List.length_cons, Nat.succ_mul]
    omega
theorem listText_le {m : Nat} {ts : List Str} (h : ∀ t ∈ ts, t.length ≤ m) : (listText ts).length ≤ 2 + ts.length * (m + 2) := by
  unfold listText
  rw [len_app]
  have h1 := from_le (m := m) (k := 0) (acc := "[") h
  have e1 : (Str.ofString "[").length = 1 := by rw [PySem.ofString_length] <;> rfl
  have e2 : (Str.ofString "]").length = 1 := by rw [PySem.ofString_length] <;> rfl
  omega
/-- data of a depth and of a text within bounds -/
structure Fit (n m : Nat) (p : PyData) : Prop where
  can : p.canLay0 = true
  show_ : p.showable = true
  plain : p.hasDict = false
  deep : p.depth ≤ n
  text : PyData.strOk p.shown = true
  len : p.shown.length ≤ m
theorem Fit.mono {n m n' m' : Nat} {p : PyData} (h : Fit n m p) (a : n ≤ n') (b : m ≤ m') : Fit n' m' p := ⟨h.can, h.show_, h.plain, Nat.le_trans h.deep a, h.text, Nat.le_trans h.len b⟩
theorem shownAll_mem {t : Str} : ∀ {ps : List PyData}, t ∈ PyData.shownAll ps → ∃ p ∈ ps, p.shown = t
  | [], h => by rw [PyData.shownAll] at h; cases h
  | p :: ps, h => by
    rw [PyData.shownAll] at h
    rcases List.mem_cons.mp h with e | h
    · exact ⟨p, List.mem_cons_self, e.symm⟩
    · obtain ⟨q, hq, e⟩ := shownAll_mem h
      exact ⟨q, List.mem_cons_of_mem _ hq, e⟩
theorem shownAll_len : ∀ ps : List PyData, (PyData.shownAll ps).length = ps.length
  | [] => by rw [PyData.shownAll] <;> rfl
  | p :: ps => by rw [PyData.shownAll, List.length_cons, List.length_cons, shownAll_len ps]
theorem fits_all {n m : Nat} : ∀ {ps : List PyData}, (∀ p ∈ ps, Fit n m p) → PyData.canLayAll0 ps = true ∧ PyData.showableAll ps = true ∧ PyData.hasDictAll ps = false ∧ PyData.depthAll ps ≤ n
  | [], _ => by simp [PyData.canLayAll0, PyData.showableAll, PyData.hasDictAll, PyData.depthAll]
  | p :: ps, h => by
    obtain ⟨a, b, c, d⟩ := fits_all (n := n) (m := m) (ps := ps) fun q hq => h q (List.mem_cons_of_mem _ hq)
    have f := h p List.mem_cons_self
    rw [PyData.canLayAll0, PyData.showableAll, PyData.hasDictAll, PyData.depthAll, f.can, f.show_, f.plain, a, b, c]
    exact ⟨rfl, rfl, rfl, Nat.max_le.mpr ⟨f.deep, d⟩⟩
theorem fit_list {n m l : Nat} {ps : List PyData} (h : ∀ p ∈ ps, Fit n m p) (hl : ps.length ≤ l) : Fit (n + 1) (2 + l * (m + 2)) (.list ps) := by
  obtain ⟨a, b, c, d⟩ := fits_all h
  refine ⟨by rw [PyData.canLay0]; exact a, by rw [PyData.showable]; exact b, by rw [PyData.hasDict]; exact c, by rw [PyData.depth]; omega, ?_, ?_⟩
  · rw [PyData.shown]
    exact strOk_listText fun t ht => by
      obtain ⟨p, hp, rfl⟩ := shownAll_mem ht
      exact (h p hp).text
  · rw [PyData.shown]
    have := listText_le (m := m) (ts := PyData.shownAll ps) fun t ht => by
      obtain ⟨p, hp, rfl⟩ := shownAll_mem ht
      exact (h p hp).len
    rw [shownAll_len] at this
    have h2 : ps.length * (m + 2) ≤ l * (m + 2) := Nat.mul_le_mul_right _ hl
    omega
theorem fit_int {i : Int} {k : Nat} (h : i.natAbs < 10 ^ k) (h0 : 0 < k := by decide) (hk : k ≤ 500 := by decide) : Fit 0 (k + 1) (.int i) := by
  have h1 : i.natAbs.log2 < 1920 := by
    refine PySem.Flt.log2_lt_of (by decide : 0 < 1920) (Nat.lt_of_lt_of_le h (Nat.le_trans (Nat.pow_le_pow_right (by decide) hk) (by decide +kernel)))
  refine ⟨by rw [PyData.canLay0], by rw [PyData.showable, decide_eq_true h1], by rw [PyData.hasDict], by rw [PyData.depth] <;> omega, by rw [PyData.shown]; exact strOk_lit, ?_⟩
  rw [PyData.shown, PySem.ofString_length]
  exact int_text_length_le10 h0 h
theorem Fit.shaped {n m : Nat} {p : PyData} (h : Fit n m p) (hn : n ≤ 64 := by decide) : SeqAt.shaped p = true := by
  unfold SeqAt.shaped
  rw [h.can, Bool.true_and, decide_eq_true_eq]
  exact Nat.le_trans h.deep hn
abbrev rowD (r : List Int) : D := .lst (r.map D.int)
abbrev rowP (r : List Int) : PyData := .list (r.map PyData.int)
abbrev tabD (t : List (List Int)) : D := .lst (t.map rowD)
theorem pyra_map {α : Type} {S : Sto} {f : α → D} {g : α → PyData} (h : ∀ x, PyR S (f x) (g x)) : ∀ xs : List α, PyRA S (xs.map f) (xs.map g)
  | [] => .nil
  | x :: xs => .cons (h x) (pyra_map h xs)
theorem pyr_row {S : Sto} (r : List Int) : PyR S (rowD r) (rowP r) := .lst (pyra_map PyR.int r)
theorem fit_row {r : List Int} {k l : Nat} (h : ∀ i ∈ r, i.natAbs < 10 ^ k) (hl : r.length ≤ l) (h0 : 0 < k := by decide) (hk : k ≤ 500 := by decide) : Fit 1 (2 + l * (k + 3)) (rowP r) := by
  refine fit_list (n := 0) (m := k + 1) (fun p hp => ?_) (by rw [List.length_map]; exact hl)
  obtain ⟨i, hi, rfl⟩ := List.mem_map.mp hp
  exact fit_int (h i hi) h0 hk
end DL
namespace DL
open PySem PySem.Spec PyProof.Rows L2
def forP (src : Src) (G : TGd) (B : TSd) : TSd := fun D Γ S1 => ∃ (P : Nat → Gam → Sto → Prop) (n : Nat), P 0 Γ S1 ∧
  (∀ i Γ' S', i ≤ n → P i Γ' S' → ∃ ds, src S' = some ds ∧ ds.length = n) ∧
  (∀ i Γ' S' ds d, P i Γ' S' → src S' = some ds → ds[i]? = some d → G d Γ' S' fun Γ2 S2 => B { D with nx := P (i + 1), ct := P (i + 1), bk := D.nx } Γ2 S2) ∧
  (∀ Γ' S', P n Γ' S' → D.nx Γ' S')
/-- marks: where ways meet again -/
def dJ (T : TD) : TD := T
def sJ (T : TSd) : TSd := T
theorem joinD {T : TD} {Γ : Gam} {S : Sto} {Φ : KD} {Ψ : KX} (J : KD) (h : ∀ S' d, J S' d → Φ S' d) (k : ∀ Φ' : KD, (∀ S' d, J S' d → Φ' S' d) → T Γ S Φ' Ψ) : dJ T Γ S Φ Ψ := k Φ h
theorem dJ_e {T : TD} {Γ : Gam} {S : Sto} {Φ : KD} {Ψ : KX} : dJ T Γ S Φ Ψ = T Γ S Φ Ψ := rfl
theorem sJ_e {T : TSd} {Γ : Gam} {S : Sto} {E : EdD} : sJ T E Γ S = T E Γ S := rfl
def lcP (src : Src) (G : TGd) (C : TB) (Te : TD) (vs : List Nat) (Fin : List D → Sto → KD → Prop) (Γ : Gam) (S1 : Sto) (Φ : KD) : Prop := ∃ (P : Nat → List D → Sto → Prop) (n : Nat), n ≤ sizeLine ∧ P 0 [] S1 ∧
  (∀ i acc S', i ≤ n → P i acc S' → ∃ ds, src S' = some ds ∧ ds.length = n) ∧
  (∀ i acc S' ds d, P i acc S' → src S' = some ds → ds[i]? = some d → G d (gwipe Γ vs) S' fun Γ2 S2 => C Γ2 S2 (fun S3 k => if k = true then Te Γ2 S3 (fun S4 y => P (i + 1) (acc ++ [y]) S4) (fun _ _ => False) else P (i + 1) acc S3) (fun _ _ => False)) ∧
  (∀ acc S', P n acc S' → Fin acc S' Φ)
section
variable {Γ : Gam} {S : Sto} {Φ : KD} {Ψ : KX}
theorem sNext_e {E : EdD} : sNext E Γ S = (E.nx Γ S) := rfl
theorem sSeq_e {E : EdD} {T U : TSd} : sSeq T U E Γ S = (T { E with nx := U E } Γ S) := rfl
theorem sBrk_e {E : EdD} : sBrk E Γ S = (E.bk Γ S) := rfl
theorem sCnt_e {E : EdD} : sCnt E Γ S = (E.ct Γ S) := rfl
theorem sDrop_e {E : EdD} {T : TD} : sDrop T E Γ S = (T Γ S (fun S1 _ => E.nx Γ S1) E.er) := rfl
theorem sRet_e {E : EdD} {T : TD} : sRet T E Γ S = (T Γ S E.rt E.er) := rfl
theorem sRetN_e {E : EdD} : sRetN E Γ S = (E.rt S .non) := rfl
theorem sIf_e {E : EdD} {C : TB} {T U : TSd} : sIf C T U E Γ S = (C Γ S (fun S1 k => if k = true then T E Γ S1 else U E Γ S1) E.er) := rfl
theorem sAsg_e {E : EdD} {T : TD} {G : TGd} : sAsg T G E Γ S = (T Γ S (fun S1 d => G d Γ S1 E.nx) E.er) := rfl
theorem sPar_e {E : EdD} {i j : Nat} {T : TL} : sPar i j T E Γ S = (T Γ S (fun S1 ds => ∃ x y, ds = [x, y] ∧ E.nx ((Γ.set i (some x)).set j (some y)) S1) E.er) := rfl
theorem sPar3_e {E : EdD} {i j l : Nat} {T : TL} : sPar3 i j l T E Γ S = (T Γ S (fun S1 ds => ∃ x y z, ds = [x, y, z] ∧ E.nx (((Γ.set i (some x)).set j (some y)).set l (some z)) S1) E.er) := rfl
theorem sAug_e {E : EdD} {i : Nat} {T : TD} {f : D → D → Sto → KD → Prop} : sAug i T f E Γ S = (∃ d, Γ[i]? = some (some d) ∧ T Γ S (fun S1 y => f d y S1 fun S2 z => E.nx (Γ.set i (some z)) S2) E.er) := rfl
theorem sRaise_e {E : EdD} {C : Addr} : sRaise C E Γ S = (E.er S ⟨C, []⟩) := rfl
theorem nmG_e {i : Nat} {d : D} {P : Gam → Sto → Prop} : nmG i d Γ S P = (P (Γ.set i (some d)) S) := rfl
theorem tupG_e {n : Nat} {T : TGs'} {d : D} {P : Gam → Sto → Prop} : tupG n T d Γ S P = (∃ ds, d = .tup ds ∧ ds.length = n ∧ T ds Γ S P) := rfl
theorem gsNil_e {ds : List D} {P : Gam → Sto → Prop} : gsNil ds Γ S P = (ds = [] ∧ P Γ S) := rfl
theorem gsCons_e {ds : List D} {T : TGd} {U : TGs'} {P : Gam → Sto → Prop} : gsCons T U ds Γ S P = (∃ d r, ds = d :: r ∧ T d Γ S fun Γ' S' => U r Γ' S' P) := rfl
theorem subG_e {f : D → D → D → Sto → (Sto → Prop) → Prop} {To Ti : TD} {d : D} {P : Gam → Sto → Prop} : subG f To Ti d Γ S P = (To Γ S (fun S1 o => Ti Γ S1 (fun S2 i => f o i d S2 fun S3 => P Γ S3) fun _ _ => False) fun _ _ => False) := rfl
theorem dVar_e {i : Nat} : dVar i Γ S Φ Ψ = (∃ d, Γ[i]? = some (some d) ∧ Φ S d) := rfl
theorem dC_e {d : D} : dC d Γ S Φ Ψ = (Φ S d) := rfl
theorem dOp_e {f : D → D → Sto → KD → Prop} {A B : TD} : dOp f A B Γ S Φ Ψ = (A Γ S (fun S1 x => B Γ S1 (fun S2 y => f x y S2 Φ) Ψ) Ψ) := rfl
theorem dUn_e {f : D → Sto → KD → Prop} {A : TD} : dUn f A Γ S Φ Ψ = (A Γ S (fun S1 d => f d S1 Φ) Ψ) := rfl
theorem dChain_e {f g : D → D → Sto → KD → Prop} {A B C : TD} : dChain f g A B C Γ S Φ Ψ = (A Γ S (fun S1 x => B Γ S1 (fun S2 y => f x y S2 fun S3 z => ∃ k, z = .bl k ∧ (if k = true then C Γ S3 (fun S4 u => g y u S4 Φ) Ψ else Φ S3 (.bl false))) Ψ) Ψ) := rfl
theorem bOf_e {A : TD} {Φ : Sto → Bool → Prop} : bOf A Γ S Φ Ψ = (A Γ S (fun S1 d => ∃ k, d = .bl k ∧ Φ S1 k) Ψ) := rfl
theorem bAnd_e {A B : TB} {Φ : Sto → Bool → Prop} : bAnd A B Γ S Φ Ψ = (A Γ S (fun S1 k => if k = true then B Γ S1 Φ Ψ else Φ S1 false) Ψ) := rfl
theorem bOr_e {A B : TB} {Φ : Sto → Bool → Prop} : bOr A B Γ S Φ Ψ = (A Γ S (fun S1 k => if k = true then Φ S1 true else B Γ S1 Φ Ψ) Ψ) := rfl
theorem bNot_e {A : TB} {Φ : Sto → Bool → Prop} : bNot A Γ S Φ Ψ = (A Γ S (fun S1 k => Φ S1 (!k)) Ψ) := rfl
theorem bYes_e {Φ : Sto → Bool → Prop} : bYes Γ S Φ Ψ = (Φ S true) := rfl
theorem dAnd_e {A B : TD} : dAnd A B Γ S Φ Ψ = (A Γ S (fun S1 x => ∃ k, x = .bl k ∧ if k = true then B Γ S1 Φ Ψ else Φ S1 (.bl false)) Ψ) := rfl
theorem dOr_e {A B : TD} : dOr A B Γ S Φ Ψ = (A Γ S (fun S1 x => ∃ k, x = .bl k ∧ if k = true then Φ S1 (.bl true) else B Γ S1 Φ Ψ) Ψ) := rfl
theorem dNot_e {A : TD} : dNot A Γ S Φ Ψ = (A Γ S (fun S1 x => ∃ k, x = .bl k ∧ Φ S1 (.bl (!k))) Ψ) := rfl
theorem dIf_e {C : TB} {A B : TD} : dIf C A B Γ S Φ Ψ = (C Γ S (fun S1 k => if k = true then A Γ S1 Φ Ψ else B Γ S1 Φ Ψ) Ψ) := rfl
theorem lNil_e {Φ : Sto → List D → Prop} : lNil Γ S Φ Ψ = (Φ S []) := rfl
theorem lCons_e {T : TD} {U : TL} {Φ : Sto → List D → Prop} : lCons T U Γ S Φ Ψ = (T Γ S (fun S1 x => U Γ S1 (fun S2 xs => Φ S2 (x :: xs)) Ψ) Ψ) := rfl
theorem dLst_e {T : TL} : dLst T Γ S Φ Ψ = (T Γ S (fun S1 ds => ds.length ≤ sizeLine ∧ Φ S1 (.lst ds)) Ψ) := rfl
theorem dLstO_e {T : TL} : dLstO T Γ S Φ Ψ = (T Γ S (fun S1 ds => ds.length ≤ sizeLine ∧ Φ (S1 ++ [.lst ds]) (.own S1.length)) Ψ) := rfl
theorem dTup_e {T : TL} : dTup T Γ S Φ Ψ = (T Γ S (fun S1 ds => ds.length ≤ sizeLine ∧ Φ S1 (.tup ds)) Ψ) := rfl
theorem dCB_e {f : List D → Sto → KD → Prop} {T : TL} : dCB f T Γ S Φ Ψ = (T Γ S (fun S1 ds => f ds S1 Φ) Ψ) := rfl
theorem dCall_e {sp : DSpec} {T : TL} : dCall sp T Γ S Φ Ψ = (T Γ S (fun S1 ds => sp ds S1 Φ Ψ) Ψ) := rfl
theorem dCallK_e {n m : Nat} {sp : DSpec} {g : List D → List D → List D} {T U : TL} : dCallK n m sp g T U Γ S Φ Ψ = (T Γ S (fun S1 ds => U Γ S1 (fun S2 es => ds.length = n ∧ es.length = m ∧ sp (g ds es) S2 Φ Ψ) Ψ) Ψ) := rfl
theorem oNone_e {Φ : Sto → Option Int → Prop} : oNone Γ S Φ Ψ = (Φ S none) := rfl
theorem oSome_e {T : TD} {Φ : Sto → Option Int → Prop} : oSome T Γ S Φ Ψ = (T Γ S (fun S1 d => ∃ i, d = .int i ∧ Φ S1 (some i)) Ψ) := rfl
theorem dSl_e {f : D → Option Int → Option Int → Sto → KD → Prop} {T : TD} {A B : TOd} : dSl f T A B Γ S Φ Ψ = (T Γ S (fun S1 d => A Γ S1 (fun S2 lo => B Γ S2 (fun S3 hi => f d lo hi S3 Φ) Ψ) Ψ) Ψ) := rfl
theorem dBM_e {f : D → List D → Sto → KD → Prop} {T : TD} {U : TL} : dBM f T U Γ S Φ Ψ = (T Γ S (fun S1 d => isLst S1 d ∧ U Γ S1 (fun S2 ds => f d ds S2 Φ) Ψ) Ψ) := rfl
theorem dBM0_e {f : D → List D → Sto → KD → Prop} {T : TD} : dBM0 f T Γ S Φ Ψ = (T Γ S (fun S1 d => isLst S1 d ∧ f d [] S1 Φ) Ψ) := rfl
theorem dFz_e {T : TD} : dFz T Γ S Φ Ψ = (T Γ S (fun S1 d => fzD d S1 Φ) Ψ) := rfl
theorem dFz2_e {T : TD} : dFz2 T Γ S Φ Ψ = (T Γ S (fun S1 d => fzD2 d S1 Φ) Ψ) := rfl
theorem iSeq_e {T : TD} {Φ : Sto → Src → Prop} : iSeq T Γ S Φ Ψ = (T Γ S (fun S1 d => (∃ ds, asQ S1 d = some ds) ∧ Φ S1 (fun S' => asQ S' d)) Ψ) := rfl
theorem iTupD_e {T : TD} {Φ : Sto → Src → Prop} : iTupD T Γ S Φ Ψ = (T Γ S (fun S1 d => ∃ ds, d = .tup ds ∧ Φ S1 (fun _ => some ds)) Ψ) := rfl
theorem iRg1_e {T : TL} {Φ : Sto → Src → Prop} : iRg1 T Γ S Φ Ψ = (T Γ S (fun S1 ds => ∃ j, ds = [.int j] ∧ -(2 ^ 62) ≤ j ∧ j < 2 ^ 62 ∧ Φ S1 (fun _ => some (rngD 0 j.toNat))) Ψ) := rfl
theorem iRg2_e {T : TL} {Φ : Sto → Src → Prop} : iRg2 T Γ S Φ Ψ = (T Γ S (fun S1 ds => ∃ i j, ds = [.int i, .int j] ∧ (-(2 ^ 62) ≤ i ∧ i < 2 ^ 62 ∧ -(2 ^ 62) ≤ j ∧ j < 2 ^ 62) ∧ Φ S1 (fun _ => some (rngD i (j - i).toNat))) Ψ) := rfl
theorem iZipD_e {T : TL} {Φ : Sto → Src → Prop} : iZipD T Γ S Φ Ψ = (T Γ S (fun S1 ds => ∃ d e, ds = [d, e] ∧ (∃ xs, asQ S1 d = some xs) ∧ (∃ ys, asQ S1 e = some ys) ∧ Φ S1 (fun S' => (asQ S' d).bind fun xs => (asQ S' e).map fun ys => zipD xs ys)) Ψ) := rfl
theorem iEnumD_e {T : TL} {Φ : Sto → Src → Prop} : iEnumD T Γ S Φ Ψ = (T Γ S (fun S1 ds => ∃ d, ds = [d] ∧ (∃ xs, asQ S1 d = some xs) ∧ Φ S1 (fun S' => (asQ S' d).map enumD)) Ψ) := rfl
theorem sFor_e {E : EdD} {I : TId} {G : TGd} {B : TSd} : sFor I G B E Γ S = (I Γ S (fun S1 src => forP src G B E Γ S1) E.er) := rfl
theorem dLc_e {I : TId} {G : TGd} {C : TB} {T : TD} {vs : List Nat} {Fin : List D → Sto → KD → Prop} : dLc I G C T vs Fin Γ S Φ Ψ = (I Γ S (fun S1 src => lcP src G C T vs Fin Γ S1 Φ) Ψ) := rfl
theorem finF_e {acc : List D} : finF acc S Φ = (Φ S (.lst acc)) := rfl
theorem finO_e {acc : List D} : finO acc S Φ = (Φ (S ++ [.lst acc]) (.own S.length)) := rfl
theorem fzD_l {ds : List D} : fzD (.lst ds) S Φ = (Φ S (.lst ds)) := rfl
theorem fzD_i {i : Int} : fzD (.int i) S Φ = (Φ S (.int i)) := rfl
theorem fzD_o {h : Nat} : fzD (.own h) S Φ = (∃ ds, S[h]? = some (.lst ds) ∧ Φ (S.set h .gone) (.lst ds)) := rfl
theorem fzD2_o {h : Nat} : fzD2 (.own h) S Φ = (∃ ds, S[h]? = some (.lst ds) ∧ fzLD ds (S.set h .gone) fun S' ds' => Φ S' (.lst ds')) := rfl
theorem dSetO_e {h : Nat} {k : Int} {v : D} {P : Sto → Prop} : dSetO (.own h) (.int k) v S P = (∃ ds, S[h]? = some (.lst ds) ∧ ∃ j, ixN ds.length k = some j ∧ P (S.set h (.lst (ds.set j v)))) := propext ⟨fun ⟨a, b, c, d⟩ => ⟨a, c, b, d⟩, fun ⟨a, c, b, d⟩ => ⟨a, b, c, d⟩⟩
theorem mAppend_e {h : Nat} {y : D} : mAppend (.own h) [y] S Φ = (∃ xs, S[h]? = some (.lst xs) ∧ xs.length < sizeLine ∧ Φ (S.set h (.lst (xs ++ [y]))) .non) := rfl
theorem mClear_e {h : Nat} : mClear (.own h) [] S Φ = (∃ xs, S[h]? = some (.lst xs) ∧ Φ (S.set h (.lst [])) .non) := rfl
theorem mReverse_e {h : Nat} : mReverse (.own h) [] S Φ = (∃ xs, S[h]? = some (.lst xs) ∧ Φ (S.set h (.lst xs.reverse)) .non) := rfl
end
section
variable {Γ : Gam} {S : Sto} {Φ : KD} {G : TGd} {B : TSd} {E : EdD} {C : TB} {Te : TD} {vs : List Nat} {Fin : List D → Sto → KD → Prop}
theorem for_l {ds : List D} (P : Nat → Gam → Sto → Prop) (h0 : P 0 Γ S) (hs : ∀ i Γ' S' (hi : i < ds.length), P i Γ' S' → G ds[i] Γ' S' fun Γ2 S2 => B { E with nx := P (i + 1), ct := P (i + 1), bk := E.nx } Γ2 S2) (hd : ∀ Γ' S', P ds.length Γ' S' → E.nx Γ' S') : forP (fun _ => some ds) G B E Γ S :=
  ⟨P, ds.length, h0, fun _ _ _ _ _ => ⟨ds, rfl, rfl⟩, fun i Γ' S' es d hp e hd => by
    cases e
    obtain ⟨hi, rfl⟩ := List.getElem?_eq_some_iff.mp hd
    exact hs i Γ' S' hi hp, hd⟩
theorem for_s {src : Src} {ds : List D} (P : Nat → Gam → Sto → Prop) (h0 : P 0 Γ S) (hl : ∀ i Γ' S', P i Γ' S' → src S' = some ds) (hs : ∀ i Γ' S' (hi : i < ds.length), P i Γ' S' → G ds[i] Γ' S' fun Γ2 S2 => B { E with nx := P (i + 1), ct := P (i + 1), bk := E.nx } Γ2 S2) (hd : ∀ Γ' S', P ds.length Γ' S' → E.nx Γ' S') : forP src G B E Γ S :=
  ⟨P, ds.length, h0, fun i Γ' S' _ hp => ⟨ds, hl i Γ' S' hp, rfl⟩, fun i Γ' S' es d hp e hd => by
    rw [hl i Γ' S' hp] at e
    cases e
    obtain ⟨hi, rfl⟩ := List.getElem?_eq_some_iff.mp hd
    exact hs i Γ' S' hi hp, hd⟩
theorem rng_len (lo : Int) (n : Nat) : (rngD lo n).length = n := by simp [rngD]
theorem rng_get {lo : Int} {n i : Nat} {d : D} (h : (rngD lo n)[i]? = some d) : i < n ∧ d = .int (lo + i) := by
  obtain ⟨hi, e⟩ := List.getElem?_eq_some_iff.mp h
  rw [rng_len] at hi
  refine ⟨hi, ?_⟩
  rw [← e]
  simp [rngD]
theorem for_r {lo : Int} {n : Nat} (P : Nat → Gam → Sto → Prop) (h0 : P 0 Γ S) (hs : ∀ (i : Nat) Γ' S', i < n → P i Γ' S' → G (.int (lo + (i : Int))) Γ' S' fun Γ2 S2 => B { E with nx := P (i + 1), ct := P (i + 1), bk := E.nx } Γ2 S2) (hd : ∀ Γ' S', P n Γ' S' → E.nx Γ' S') : forP (fun _ => some (rngD lo n)) G B E Γ S :=
  ⟨P, n, h0, fun _ _ _ _ _ => ⟨_, rfl, rng_len _ _⟩, fun i Γ' S' es d hp e hd => by
    cases e
    obtain ⟨hi, rfl⟩ := rng_get hd
    exact hs i Γ' S' hi hp, hd⟩
theorem for_r0 {n : Nat} (P : Nat → Gam → Sto → Prop) (h0 : P 0 Γ S) (hs : ∀ (i : Nat) Γ' S', i < n → P i Γ' S' → G (.int (i : Int)) Γ' S' fun Γ2 S2 => B { E with nx := P (i + 1), ct := P (i + 1), bk := E.nx } Γ2 S2) (hd : ∀ Γ' S', P n Γ' S' → E.nx Γ' S') : forP (fun _ => some (rngD 0 n)) G B E Γ S :=
  for_r P h0 (fun i Γ' S' hi hp => by rw [Int.zero_add]; exact hs i Γ' S' hi hp) hd
theorem lc_l {ds : List D} (P : Nat → List D → Sto → Prop) (hl : ds.length ≤ sizeLine) (h0 : P 0 [] S) (hs : ∀ i acc S' (hi : i < ds.length), P i acc S' → G ds[i] (gwipe Γ vs) S' fun Γ2 S2 => C Γ2 S2 (fun S3 k => if k = true then Te Γ2 S3 (fun S4 y => P (i + 1) (acc ++ [y]) S4) (fun _ _ => False) else P (i + 1) acc S3) (fun _ _ => False))
    (hd : ∀ acc S', P ds.length acc S' → Fin acc S' Φ) : lcP (fun _ => some ds) G C Te vs Fin Γ S Φ :=
  ⟨P, ds.length, hl, h0, fun _ _ _ _ _ => ⟨ds, rfl, rfl⟩, fun i acc S' es d hp e hd => by
    cases e
    obtain ⟨hi, rfl⟩ := List.getElem?_eq_some_iff.mp hd
    exact hs i acc S' hi hp, hd⟩
theorem lc_r0 {n : Nat} (P : Nat → List D → Sto → Prop) (hl : n ≤ sizeLine) (h0 : P 0 [] S) (hs : ∀ (i : Nat) acc S', i < n → P i acc S' → G (.int (i : Int)) (gwipe Γ vs) S' fun Γ2 S2 => C Γ2 S2 (fun S3 k => if k = true then Te Γ2 S3 (fun S4 y => P (i + 1) (acc ++ [y]) S4) (fun _ _ => False) else P (i + 1) acc S3) (fun _ _ => False))
    (hd : ∀ acc S', P n acc S' → Fin acc S' Φ) : lcP (fun _ => some (rngD 0 n)) G C Te vs Fin Γ S Φ :=
  ⟨P, n, hl, h0, fun _ _ _ _ _ => ⟨_, rfl, rng_len _ _⟩, fun i acc S' es d hp e hd => by
    cases e
    obtain ⟨hi, rfl⟩ := rng_get hd
    rw [Int.zero_add]
    exact hs i acc S' hi hp, hd⟩
theorem dIx_o' {h : Nat} {i : Int} {S : Sto} {Φ : KD} : dIx (.own h) (.int i) S Φ = (∃ ds, S[h]? = some (.lst ds) ∧ ∃ d, atI ds i = some d ∧ Φ S d) := by
  rw [dIx_o]
  exact propext ⟨fun ⟨a, b, c, d⟩ => ⟨a, c, b, d⟩, fun ⟨a, c, b, d⟩ => ⟨a, b, c, d⟩⟩
theorem at_1 {α : Type} {a b : α} {l : List α} : atI (a :: b :: l) 1 = some b := at_nat (n := 1)
theorem at_2 {α : Type} {a b c : α} {l : List α} : atI (a :: b :: c :: l) 2 = some c := at_nat (n := 2)
theorem at_3 {α : Type} {a b c d : α} {l : List α} : atI (a :: b :: c :: d :: l) 3 = some d := at_nat (n := 3)
theorem at_4 {α : Type} {a b c d e : α} {l : List α} : atI (a :: b :: c :: d :: e :: l) 4 = some e := at_nat (n := 4)
theorem Fs.cell {S S' : Sto} {h n : Nat} (f : Fs h n S S') (x : Cell) (hl : h < S.length) : Fs h n (S ++ [x]) (S' ++ [x]) := by
  obtain ⟨c, q, rfl⟩ := f
  exact ⟨c, q, (set_app hl).symm⟩
theorem isLst_at {S : Sto} {h : Nat} {ds : List D} (e : S[h]? = some (.lst ds)) : isLst S (.own h) := ⟨ds, asL_at' e⟩
theorem isLst_l {S : Sto} {ds : List D} : isLst S (.lst ds) = True := propext ⟨fun _ => trivial, fun _ => ⟨ds, rfl⟩⟩
theorem ix_nat {n i : Nat} (h : i < n) : ixN n (i : Int) = some i := by
  unfold ixN
  rw [if_pos (by omega), if_pos (by omega)]
  rfl
theorem ix30 : ixN 3 0 = some 0 := ix_nat (i := 0) (by decide)
theorem ix31 : ixN 3 1 = some 1 := ix_nat (i := 1) (by decide)
theorem ix32 : ixN 3 2 = some 2 := ix_nat (i := 2) (by decide)
theorem cpw {i j : Int} (h0 : 0 ≤ j) (h1 : j ≤ 1000) (h : i.natAbs < 2 ^ 250) : CPowW i j := ⟨h0, h1, Nat.lt_of_lt_of_le h (Nat.pow_le_pow_right (by decide) (by decide))⟩
theorem cdw {i j : Int} (h0 : 0 < j) (h : j.natAbs < 2 ^ 250) : CDivW i j :=
  ⟨h0, PySem.Flt.log2_lt_of (by decide) (Nat.lt_of_lt_of_le h (Nat.pow_le_pow_right (by decide) (by decide)))⟩
theorem cml {i j : Int} (h0 : -(2 ^ 64) < i) (h : i < 2 ^ 64) : CMulA i j := .inl (.inl ⟨h0, h⟩)
theorem small {n : Nat} (h : n ≤ 1000000 := by decide) : n ≤ sizeLine := Nat.le_trans h (by decide)
theorem exAny {α : Type} {a : α} : (∃ x, some a = some x) = True := propext ⟨fun _ => trivial, fun _ => ⟨a, rfl⟩⟩
theorem cut_to {α : Type} {xs : List α} {j : Nat} : cutD xs none (some (j : Int)) = xs.take j := by
  unfold cutD
  rw [HT.sIx_none, HT.sIx_nat, List.drop_zero, Nat.sub_zero]
  by_cases h : j ≤ xs.length
  · rw [Nat.min_eq_left h]
  · rw [Nat.min_eq_right (by omega), List.take_length, List.take_of_length_le (by omega)]
theorem cut_from {α : Type} {xs : List α} {j : Nat} : cutD xs (some (j : Int)) none = xs.drop j := by
  unfold cutD
  rw [HT.sIx_none, HT.sIx_nat, List.take_of_length_le (by rw [List.length_drop]; exact Nat.le_refl _)]
  by_cases h : j ≤ xs.length
  · rw [Nat.min_eq_left h]
  · rw [Nat.min_eq_right (by omega), List.drop_of_length_le (by omega), List.drop_of_length_le (by omega)]
theorem rep_0 : List.replicate 0 (none : Option D) = [] := rfl
theorem rep_s {n : Nat} : List.replicate (n + 1) (none : Option D) = none :: List.replicate n none := rfl
/-- a comprehension that changes no cell: the item x gives g x -/
theorem lc_map {α : Type} (xs : List α) (f g : α → D) (hl : xs.length ≤ sizeLine) (hs : ∀ x ∈ xs, ∀ R : KD, R S (g x) → G (f x) (gwipe Γ vs) S fun Γ2 S2 => Te Γ2 S2 R (fun _ _ => False)) (hd : Fin (xs.map g) S Φ) : lcP (fun _ => some (xs.map f)) G bYes Te vs Fin Γ S Φ := by
  refine lc_l (fun i acc S' => S' = S ∧ acc = (xs.map g).take i) (by rw [List.length_map]; exact hl) ⟨rfl, by simp⟩ (fun i acc S' hi hp => ?_) fun acc S' hp => ?_
  · obtain ⟨rfl, rfl⟩ := hp
    have hi2 : i < xs.length := by rw [List.length_map] at hi; exact hi
    rw [List.getElem_map]
    refine hs _ (List.getElem_mem hi2) _ ⟨rfl, ?_⟩
    have hi3 : i < (xs.map g).length := by rw [List.length_map]; exact hi2
    rw [List.take_add_one, List.getElem?_eq_getElem hi3, List.getElem_map]
    rfl
  · obtain ⟨rfl, rfl⟩ := hp
    rw [List.length_map, List.take_of_length_le (by rw [List.length_map]; exact Nat.le_refl _)]
    exact hd
end
end DL
namespace DL
open PySem PySem.Spec PyProof.Rows L2
section
variable {S T : Sto} {Φ : KD} {i j : Int} {d e : D} {xs ys : List D}
theorem asL_cases (h : asL S d = some xs) : d = .lst xs ∨ ∃ n, d = .own n ∧ S[n]? = some (.lst xs) := by
  cases d with
  | lst ds => cases h; exact .inl rfl
  | own n =>
    have h : (match S[n]? with | some (.lst ds) => some ds | _ => none) = some xs := h
    split at h
    · cases h; exact .inr ⟨n, rfl, by assumption⟩
    · cases h
  | _ => cases h
theorem asL_app (h : asL S d = some xs) : asL (S ++ T) d = some xs := by
  rcases asL_cases h with rfl | ⟨n, rfl, e⟩
  · rfl
  · exact asL_at' (get_app e)
theorem asQ_L (h : asL S d = some xs) : asQ S d = some xs := by
  rcases asL_cases h with rfl | ⟨n, rfl, e⟩
  · rfl
  · exact asQ_at' e
theorem asS_L (h : asL S d = some xs) : asS S d = some xs := by
  rcases asL_cases h with rfl | ⟨n, rfl, e⟩
  · rfl
  · exact asQ_at' e
theorem tyOf_L (h : asL S d = some xs) : tyOf S d = some "list" := by
  rcases asL_cases h with rfl | ⟨n, rfl, e⟩
  · rfl
  · show (match S[n]? with | some (.lst _) => some "list" | _ => none) = some "list"
    rw [e]
theorem cLen_L (h : asL S d = some xs) : cLen [d] S Φ = Φ S (.int xs.length) := by
  rcases asL_cases h with rfl | ⟨n, rfl, e⟩
  · exact cLen_l
  · show (∃ ys, asS S (.own n) = some ys ∧ Φ S (.int ys.length)) = _
    rw [asS_L h]
    exact propext exAs
theorem dSlL_L {lo hi : Option Int} (h : asL S d = some xs) : dSlL d lo hi S Φ = Φ S (.lst (cutD xs lo hi)) := by
  show (∃ ds, asQ S d = some ds ∧ Φ S (.lst (cutD ds lo hi))) = _
  rw [asQ_L h]
  exact propext exAs
theorem dIx_L (h : asL S d = some xs) : dIx d (.int i) S Φ = ∃ x, atI xs i = some x ∧ Φ S x := by
  rcases asL_cases h with rfl | ⟨n, rfl, e⟩
  · exact dIx_l
  · rw [dIx_o', e]
    exact propext exL
end
section
variable {Γ : Gam} {S : Sto} {Φ : KD} {G : TGd} {C : TB} {Te : TD} {vs : List Nat} {Fin : List D → Sto → KD → Prop} {src : Src}
theorem lc_s {ds : List D} (P : Nat → List D → Sto → Prop) (hl : ds.length ≤ sizeLine) (h0 : P 0 [] S) (hsrc : ∀ i acc S', P i acc S' → src S' = some ds) (hs : ∀ i acc S' (hi : i < ds.length), P i acc S' → G ds[i] (gwipe Γ vs) S' fun Γ2 S2 => C Γ2 S2 (fun S3 k => if k = true then Te Γ2 S3 (fun S4 y => P (i + 1) (acc ++ [y]) S4) (fun _ _ => False) else P (i + 1) acc S3) (fun _ _ => False))
    (hd : ∀ acc S', P ds.length acc S' → Fin acc S' Φ) : lcP src G C Te vs Fin Γ S Φ :=
  ⟨P, ds.length, hl, h0, fun i acc S' _ hp => ⟨ds, hsrc i acc S' hp, rfl⟩, fun i acc S' es d hp e hd => by
    rw [hsrc i acc S' hp] at e
    cases e
    obtain ⟨hi, rfl⟩ := List.getElem?_eq_some_iff.mp hd
    exact hs i acc S' hi hp, hd⟩
theorem lc_mapS {α : Type} (xs : List α) (f g : α → D) (hsrc : src S = some (xs.map f)) (hl : xs.length ≤ sizeLine) (hs : ∀ x ∈ xs, ∀ R : KD, R S (g x) → G (f x) (gwipe Γ vs) S fun Γ2 S2 => Te Γ2 S2 R (fun _ _ => False)) (hd : Fin (xs.map g) S Φ) : lcP src G bYes Te vs Fin Γ S Φ := by
  refine lc_s (ds := xs.map f) (fun i acc S' => S' = S ∧ acc = (xs.map g).take i) (by rw [List.length_map]; exact hl) ⟨rfl, by simp⟩ (fun i acc S' hp => by rw [hp.1]; exact hsrc) (fun i acc S' hi hp => ?_) fun acc S' hp => ?_
  · obtain ⟨rfl, rfl⟩ := hp
    have hi2 : i < xs.length := by rw [List.length_map] at hi; exact hi
    rw [List.getElem_map]
    refine hs _ (List.getElem_mem hi2) _ ⟨rfl, ?_⟩
    have hi3 : i < (xs.map g).length := by rw [List.length_map]; exact hi2
    rw [List.take_add_one, List.getElem?_eq_getElem hi3, List.getElem_map]
    rfl
  · obtain ⟨rfl, rfl⟩ := hp
    rw [List.length_map, List.take_of_length_le (by rw [List.length_map]; exact Nat.le_refl _)]
    exact hd
theorem lc_idS (ds : List D) (g : D → D) (hsrc : src S = some ds) (hl : ds.length ≤ sizeLine) (hs : ∀ x ∈ ds, ∀ R : KD, R S (g x) → G x (gwipe Γ vs) S fun Γ2 S2 => Te Γ2 S2 R (fun _ _ => False)) (hd : Fin (ds.map g) S Φ) : lcP src G bYes Te vs Fin Γ S Φ :=
  lc_mapS ds id g (by rw [List.map_id]; exact hsrc) hl hs hd
end
theorem all_true {α : Type} (xs : List α) : (xs.map fun _ => true).all id = true := by
  rw [List.all_eq_true]
  intro x hx
  obtain ⟨_, _, rfl⟩ := List.mem_map.mp hx
  rfl
/-- rows of a table, read by the cells -/
inductive RowsS (S : Sto) : List D → List (List Int) → Prop
  | nil : RowsS S [] []
  | cons {d : D} {ds : List D} {r : List Int} {t : List (List Int)} : asL S d = some (r.map D.int) → RowsS S ds t → RowsS S (d :: ds) (r :: t)
def TabS (S : Sto) (d : D) (t : List (List Int)) : Prop := ∃ ds, asL S d = some ds ∧ RowsS S ds t
namespace RowsS
variable {S T : Sto} {ds es : List D} {t u : List (List Int)}
theorem len (h : RowsS S ds t) : ds.length = t.length := by
  induction h with
  | nil => rfl
  | cons _ _ ih => rw [List.length_cons, List.length_cons, ih]
theorem app (h : RowsS S ds t) : RowsS (S ++ T) ds t := by
  induction h with
  | nil => exact .nil
  | cons a _ ih => exact .cons (asL_app a) ih
theorem take (h : RowsS S ds t) : ∀ n, RowsS S (ds.take n) (t.take n) := by
  induction h with
  | nil => intro n; rw [List.take_nil, List.take_nil]; exact .nil
  | cons a _ ih =>
    intro n
    cases n with
    | zero => exact .nil
    | succ n => exact .cons a (ih n)
theorem drop (h : RowsS S ds t) : ∀ n, RowsS S (ds.drop n) (t.drop n) := by
  induction h with
  | nil => intro n; rw [List.drop_nil, List.drop_nil]; exact .nil
  | cons a b ih =>
    intro n
    cases n with
    | zero => exact .cons a b
    | succ n => exact ih n
theorem get (h : RowsS S ds t) : ∀ {i : Nat} (hi : i < t.length) (hd : i < ds.length), asL S ds[i] = some ((t[i]).map D.int) := by
  induction h with
  | nil => intro i hi; exact absurd hi (by simp)
  | cons a b ih =>
    intro i hi hd
    cases i with
    | zero => exact a
    | succ i => exact ih (by simpa using hi) (by simpa using hd)
theorem mem (h : RowsS S ds t) {d : D} (hd : d ∈ ds) : ∃ r ∈ t, asL S d = some (r.map D.int) := by
  induction h with
  | nil => cases hd
  | cons a _ ih =>
    rcases List.mem_cons.mp hd with rfl | hd
    · exact ⟨_, List.mem_cons_self, a⟩
    · obtain ⟨r, hr, e⟩ := ih hd
      exact ⟨r, List.mem_cons_of_mem _ hr, e⟩
end RowsS
theorem rows_map {S : Sto} : ∀ t : List (List Int), RowsS S (t.map rowD) t
  | [] => .nil
  | _ :: t => .cons rfl (rows_map t)
theorem tabS_l {S : Sto} (t : List (List Int)) : TabS S (tabD t) t := ⟨_, rfl, rows_map t⟩
theorem TabS.app {S T : Sto} {d : D} {t : List (List Int)} (h : TabS S d t) : TabS (S ++ T) d t := let ⟨ds, e, r⟩ := h; ⟨ds, asL_app e, r.app⟩
theorem TabS.ty {S : Sto} {d : D} {t : List (List Int)} (h : TabS S d t) : tyOf S d = some "list" := let ⟨_, e, _⟩ := h; tyOf_L e
end DL
namespace DL
open PySem PySem.Spec PyProof.Rows L2
/-- an instance, frozen or a cell -/
def asI (S : Sto) : D → Option (Addr × List (Str × D))
  | .ins C fs => some (C, fs)
  | .own h => match S[h]? with
    | some (.ins C fs) => some (C, fs)
    | _ => none
  | _ => none
section
variable {K : PySem.W.Frag} {w : Hs} {S : Sto}
theorem asI_own {h : Nat} {C : Addr} {fs : List (Str × D)} (e : S[h]? = some (.ins C fs)) : asI S (.own h) = some (C, fs) := by
  show (match S[h]? with
    | some (.ins C fs) => some (C, fs)
    | _ => none) = some (C, fs)
  rw [e]
theorem own_ins {h : Nat} {C : Addr} {fs : List (Str × D)} (e : asI S (.own h) = some (C, fs)) : S[h]? = some (.ins C fs) := by
  unfold asI at e
  dsimp only at e
  split at e
  · cases e; assumption
  · cases e
theorem ins_at (g : Good K w S) {h : Nat} {v : V} {C : Addr} {fs : List (Str × D)} (r : Rv K w v (.own h)) (e : S[h]? = some (.ins C fs)) : ∃ a dx vs, v = .ref a ∧ w.al[h]? = some a ∧ w.H a = some (.ins C dx vs) ∧ RpF K w.F w.al vs fs := by
  cases r with
  | @own h a q =>
    obtain ⟨_, dx, vs, h2, h3⟩ := g.cell h a _ q e
    exact ⟨a, dx, vs, rfl, q, h2, h3⟩
theorem asI_at (g : Good K w S) {v : V} {d : D} {C : Addr} {fs : List (Str × D)} (r : Rv K w v d) (e : asI S d = some (C, fs)) : ∃ a dx vs, v = .ref a ∧ w.H a = some (.ins C dx vs) ∧ RpF K w.F w.al vs fs := by
  cases d with
  | ins C' fs' =>
    cases e
    cases r with
    | ins h1 h2 => exact ⟨_, _, _, rfl, g.sub _ _ h1, h2⟩
  | own h =>
    obtain ⟨a, dx, vs, e1, _, h2, h3⟩ := ins_at g r (own_ins e)
    exact ⟨a, dx, vs, e1, h2, h3⟩
  | _ => cases e
variable {F : Hp} {al : List Addr}
theorem rf_some {f : Str} {d : D} : ∀ {vs : List (Str × V)} {fs : List (Str × D)}, RpF K F al vs fs → fs.lookup f = some d → ∃ v, vs.lookup f = some v ∧ Rp K F al v d
  | _, _, .nil, e => by cases e
  | (n, v) :: vs, (_, d') :: fs, .cons r t, e => by
    rw [List.lookup_cons] at e ⊢
    cases q : (f == n) with
    | true =>
      rw [q] at e
      cases e
      exact ⟨v, rfl, r⟩
    | false =>
      rw [q] at e
      exact rf_some t e
theorem rf_len : ∀ {vs : List (Str × V)} {fs : List (Str × D)}, RpF K F al vs fs → vs.length = fs.length
  | _, _, .nil => rfl
  | _ :: _, _ :: _, .cons _ t => by rw [List.length_cons, List.length_cons, rf_len t]
/-- an attribute written -/
def putD (f : Str) (d : D) : List (Str × D) → List (Str × D)
  | [] => [(f, d)]
  | (g, x) :: r => if g = f then (g, d) :: r else (g, x) :: putD f d r
theorem rf_put {f : Str} {v : V} {d : D} (rv : Rp K F al v d) : ∀ {vs : List (Str × V)} {fs : List (Str × D)}, RpF K F al vs fs → RpF K F al (putF f v vs) (putD f d fs)
  | _, _, .nil => .cons rv .nil
  | (n, x) :: vs, (_, d') :: fs, .cons r t => by
    unfold putF putD
    by_cases h : n = f
    · rw [if_pos h, if_pos h]; exact .cons rv t
    · rw [if_neg h, if_neg h]; exact .cons r (rf_put rv t)
end
section
variable {X : Cx} {W : WX} {o e : Expr} {es : List Expr} {f m x : Str} {pos apos p : Pos} {to te : TE} {To Te : TD} {tl tk' : TA} {Tl Tk : TL} {C : Addr} {k : Nat} {sp : DSpec}
/-- o.f, o an instance of the class at C -/
def dFld (C : Addr) (f : Str) (T : TD) : TD := fun Γ S Φ Ψ => T Γ S (fun S1 d => ∃ fs, asI S1 d = some (C, fs) ∧ ∃ y, fs.lookup f = some y ∧ Φ S1 y) Ψ
theorem je_fld (cl : Cls X.K C) (na : NoAttr X.K C f) (he : JE X W o to To) (hb : attributeBase o f X.env (eval o X.env) = eval o X.env := by rfl) : JE X W (.Attribute o f pos) (tFld X.K to f) (dFld C f To) :=
  ⟨pe_fld he.pe hb, fun Γ S Φ Ψ σ w g sl h hx Q q => he.sem Γ S _ Ψ σ w g sl h hx _ fun v d w1 S1 e1 g1 r1 ⟨fs, e2, y, l, h1⟩ => by
    obtain ⟨a, dx, vs, rfl, hH, rf⟩ := asI_at g1 r1 e2
    obtain ⟨u, lu, ru⟩ := rf_some rf l
    exact ⟨a, C, dx, vs, u, rfl, hH, cl, na, lu, q u y w1 S1 e1 g1 ru h1⟩⟩
/-- o.f, a constant of o's class: by a table of classes -/
def dConI (tab : List (Addr × D)) (f : Str) (T : TD) : TD := fun Γ S Φ Ψ => T Γ S (fun S1 d => ∃ C fs, asI S1 d = some (C, fs) ∧ fs.lookup f = none ∧ ∃ y, (C, y) ∈ tab ∧ Φ S1 y) Ψ
/-- C.f, a constant read off a class -/
structure CValF (K : PySem.W.Frag) (C : Addr) (f : Str) (d : D) : Prop where
  ex : ∃ mc v u, ClX.CRead K C mc ∧ ClX.CVal K C mc f v u ∧ ∀ w : Hs, Rv K w v d
def dCVal (tab : List (Addr × D)) (f : Str) (T : TD) : TD := fun Γ S Φ Ψ => T Γ S (fun S1 d => ∃ C, d = .obj C ∧ ∃ y, (C, y) ∈ tab ∧ Φ S1 y) Ψ
theorem je_cval {tab : List (Addr × D)} (c : ∀ q ∈ tab, CValF X.K q.1 f q.2) (he : JE X W o to To) (hb : attributeBase o f X.env (eval o X.env) = eval o X.env := by rfl) : JE X W (.Attribute o f pos) (ClX.tCVal X.K to f) (dCVal tab f To) :=
  ⟨ClX.pe_cval he.pe hb, fun Γ S Φ Ψ σ w g sl h hx Q q => he.sem Γ S _ Ψ σ w g sl h hx _ fun v d w1 S1 e1 g1 r1 ⟨C, ed, y, ly, h1⟩ => by
    subst ed
    cases r1
    obtain ⟨mc, vv, u, c1, c2, rv⟩ := c _ ly
    exact ⟨C, mc, vv, u, rfl, c1, c2, q vv y w1 S1 e1 g1 (rv w1) h1⟩⟩
/-- o.f = e, o a cell -/
def sFldS (C : Addr) (f : Str) (To Te : TD) : TSd := fun D Γ S => Te Γ S (fun S1 y => To Γ S1 (fun S2 d => ∃ h fs, d = .own h ∧ S2[h]? = some (.ins C fs) ∧ fs.length < 1000 ∧ D.nx Γ (S2.set h (.ins C (putD f y fs)))) D.er) D.er
theorem js_fld {pos' : Pos} (cl : Cls X.K C) (na : NoAttr X.K C f) (ho : JE X W o to To) (he : JE X W e te Te) (hs : swapsWith e (some (.Attribute o f pos')) pos.line X.env = pure false := by rfl) : JS X W (.Assign [.Attribute o f pos'] e pos) (sFld X.K to te f) (sFldS C f To Te) :=
  ⟨ps_fld ho.pe he.pe hs, fun D' Γ S σ w D g sl h r => he.sem Γ S _ _ σ w g sl h (r.er σ) _ fun y dy w1 S1 e1 g1 r1 h1 => ho.sem Γ S1 _ _ σ w1 g1 (sl.ext e1) h1 ((r.er σ).ext e1) _ fun v d w2 S2 e2 g2 r2 ⟨hh, fs, ed, es, hl, h2⟩ => by
    subst ed
    obtain ⟨a, dx, vs, rfl, ha, hH, rf⟩ := ins_at g2 r2 es
    have e12 := e1.trans e2
    refine ⟨a, C, dx, vs, rfl, hH, cl, na, by rw [rf_len rf]; exact hl, ?_⟩
    have hm : a ∈ w2.al := List.mem_of_getElem? ha
    exact r.nx σ Γ (w2.wr a (.ins C dx (putF f y vs))) _ (e12.trans (Ext.wr _ hm)) (g2.wrI ha es (rf_put (e2.rp r1) rf)) ((sl.ext e12).ext (Ext.wr _ hm)) h2⟩
theorem at_last {al : List Addr} {p : Addr} {n : Nat} (h : al.length = n) : (al ++ [p])[n]? = some p := by
  rw [← h, List.getElem?_append_right (Nat.le_refl _), Nat.sub_self] <;> rfl
end
end DL
namespace DL
open PySem PySem.Spec PyProof.Rows L2
section
variable {M : Model} {A : Around} {E : Value → Shared → Prop} {s : Shared}
abbrev Keeps (M : Model) (f : Value) (h : Heap) : Prop := ∃ k, (k = Keeper.frame ∨ k = Keeper.machine ∨ k = Keeper.boundFrame) ∧ PySem.W.Looks M h (keeperOf f) k
theorem cw_any {f : Value} {first : List Value} {pos : Pos} {R : Value → Shared → Prop} {args : List (Bool × Sem Value)} {kws : List (Option Str × Sem Value)}
    (h : wpAny M A (evalArgs f true args kws) (fun a s1 => Keeps M f s1.heap ∧ wpAny M A (call f (first ++ a.pos) a.kw) R E s1) E s) : wpAny M A (callWith pos f first args kws) R E s := by
  cases st : (args.any (·.1) || kws.any (·.1.isNone)) with
  | false => exact PySem.W.callWith_of (P := Keeps M f) st (fun _ q => q) h
  | true =>
    unfold callWith
    refine wpAny_bind (wpAny_holding (wpAny_mono h (fun a s1 q => wpAny_bind (wpAny_standAt ?_)) fun _ _ z => z))
    obtain ⟨⟨k, hk, L⟩, q⟩ := q
    simp only [st]
    refine wpAny_bind (L.here ?_)
    have tail : ∀ {t : Sem Value}, wpAny M A t R E s1 → wpAny M A (t >>= fun r => holding [r] point >>= fun _ => pure r) R E s1 :=
      fun ht => wpAny_bind (wpAny_mono ht (fun r s2 hr => wpAny_bind (wpAny_holding (wpAny_point (wpAny_pure hr)))) fun _ _ y => y)
    have marked (mk : Value) : wpAny M A (callMarked mk f (first ++ a.pos) a.kw) R E s1 := by unfold callMarked; exact PySem.Calls.wpAny_keep q
    rcases hk with rfl | rfl | rfl <;> dsimp only <;> first | exact tail (marked _) | exact tail (wpAny_operating q)
theorem ea_lone {f : Value} {x : Sem Value} {pos : Pos} {kws : List (Option Str × Sem Value)} {Q : Args → Shared → Prop} (hall : kws.all (·.1.isSome) = true)
    (h : wpAny M A x (fun v s1 => wpAny M A (evalAll (kws.map (·.2))) (fun ks s2 => PySem.W.StarOf M A E v (fun vs s3 => Q ⟨vs, (kws.filterMap (·.1)).zip ks⟩ s3) s2) E s1) E s) :
    wpAny M A (evalArgs f true [(true, (do let v ← x; standAt pos; pure v))] kws) Q E s := by
  unfold evalArgs
  first
    | refine wpAny_bind (wpAny_bind (wpAny_mono h (fun v s1 q => wpAny_bind (wpAny_standAt (wpAny_pure ?_))) fun _ _ z => z))
    | refine wpAny_bind (wpAny_bind (wpAny_bind (wpAny_mono h (fun v s1 q => wpAny_bind (wpAny_standAt (wpAny_pure (wpAny_pure ?_)))) fun _ _ z => z)))
  refine wpAny_holding ?_
  simp only [hall, if_true]
  refine wpAny_bind (wpAny_mono q (fun ks s2 q2 => ?_) fun _ _ z => z)
  unfold PySem.W.StarOf at q2
  refine wpAny_bind (wpAny_bind (wpAny_mono q2 (fun b s3 q3 => ?_) fun _ _ z => z))
  obtain ⟨rfl, q4⟩ := q3
  have fin := wpAny_holding (vs := ((kws.filterMap (·.1)).zip ks).map (·.2)) (wpAny_mono q4 (fun vs s4 q5 => (wpAny_pure q5 : wpAny M A (pure (⟨vs, (kws.filterMap (·.1)).zip ks⟩ : Args)) Q E s4)) fun _ _ z => z)
  have fin2 := wpAny_mono (wpAny_holding (vs := ((kws.filterMap (·.1)).zip ks).map (·.2)) q4) (fun vs s4 q5 => (wpAny_pure q5 : wpAny M A (pure (⟨vs, (kws.filterMap (·.1)).zip ks⟩ : Args)) Q E s4)) fun _ _ z => z
  try simp only [Bool.false_eq_true, if_false]
  first
    | exact fin2
    | exact wpAny_bind (wpAny_pure fin2)
    | exact wpAny_bind fin2
    | exact fin
end
abbrev TA2 := L2.St → Hp → (List V → List V → Hp → Prop) → Prop
abbrev TL2 := Gam → Sto → (Sto → List D → List D → Prop) → KX → Prop
def SemA2 (K : PySem.W.Frag) (W : WX) (t : TA2) (T : TL2) : Prop := ∀ Γ S Φ Ψ σ w, Good K w S → Slots K w σ Γ → T Γ S Φ Ψ → OkX K W w Ψ σ → ∀ Q : List V → List V → Hp → Prop,
  (∀ vs zs ds es w' S', Ext w w' → Good K w' S' → Ra K w' vs ds → Ra K w' zs es → Φ S' ds es → Q vs zs w'.H) → t σ w.H Q
structure JC (X : Cx) (W : WX) (es : List Expr) (kws : List Keyword) (ks : List Str) (t : TA2) (T : TL2) : Prop where
  run : ∀ (pins : List (Addr × Obj)) (s : Shared) (σ : L2.St) (H : Hp) (Q : List V → List V → Hp → Prop) (f : Value) (first : List Value) (pos : Pos) (R : Value → Shared → Prop), Inv X pins σ H s → t σ H Q →
    (∀ s1 H1 us ws vs zs, Inv X pins σ H1 s1 → Vals vs us → Vals zs ws → zs.length = ks.length → Q vs zs H1 → Keeps (model X.prog X.w) f s1.heap ∧ wpAny (model X.prog X.w) X.A (call f (first ++ us) (ks.zip ws)) R X.xe s1) →
    wpAny (model X.prog X.w) X.A (callWith pos f first (backTo pos (starEach es X.env)) (backToKw pos (keywordEach kws X.env))) R X.xe s
  sem : SemA2 X.K W t T
def t2 (t tk : TA) (n : Nat) : TA2 := fun σ H Q => t σ H fun vs H1 => tk σ H1 fun zs H2 => zs.length = n ∧ Q vs zs H2
def d2 (T Tk : TL) (n : Nat) : TL2 := fun Γ S Φ Ψ => T Γ S (fun S1 ds => Tk Γ S1 (fun S2 es => es.length = n ∧ Φ S2 ds es) Ψ) Ψ
def tLone (K : PySem.W.Frag) (te : TE) (tk : TA) (n : Nat) : TA2 := fun σ H Q => te σ H fun x H1 => tk σ H1 fun zs H2 => zs.length = n ∧ ∃ p xs, x = V.ref p ∧ (SqT K H2 p xs ∨ SqL K H2 p xs) ∧ Q xs zs H2
def dLone (T : TD) (Tk : TL) (n : Nat) : TL2 := fun Γ S Φ Ψ => T Γ S (fun S1 d => Tk Γ S1 (fun S2 es => es.length = n ∧ ∃ ds, asS S2 d = some ds ∧ Φ S2 ds es) Ψ) Ψ
def lStar (T : TD) (U : TL) : TL := fun Γ S Φ Ψ => T Γ S (fun S1 d => ∃ ds, asS S1 d = some ds ∧ U Γ S1 (fun S2 xs => Φ S2 (ds ++ xs)) Ψ) Ψ
section
variable {X : Cx} {W : WX} {e : Expr} {es : List Expr} {kws : List Keyword} {ks : List Str} {te : TE} {Te : TD} {tl tk : TA} {Tl Tk : TL} {p : Pos}
theorem sem_t2 {K : PySem.W.Frag} {n : Nat} (h1 : SemA K W tl Tl) (h2 : SemA K W tk Tk) : SemA2 K W (t2 tl tk n) (d2 Tl Tk n) := fun Γ S Φ Ψ σ w g sl h hx Q q =>
  h1 Γ S _ Ψ σ w g sl h hx _ fun vs ds w1 S1 e1 g1 r1 k1 => h2 Γ S1 _ Ψ σ w1 g1 (sl.ext e1) k1 (hx.ext e1) _ fun zs es w2 S2 e2 g2 r2 ⟨hl, k2⟩ => ⟨by rw [r2.length]; exact hl, q vs zs ds es w2 S2 (e1.trans e2) g2 (e2.ra r1) r2 k2⟩
/-- the keywords' values -/
theorem kw_run {pos : Pos} {pins : List (Addr × Obj)} {s : Shared} {σ : L2.St} {H : Hp} {Q : List V → Hp → Prop} {Z : List Value → Shared → Prop} (hk : JK X W kws tk Tk) (I : Inv X pins σ H s) (h : tk σ H Q) (q : ∀ ws s1 zs H1, Inv X pins σ H1 s1 → Vals zs ws → Q zs H1 → Z ws s1) :
    wpAny (model X.prog X.w) X.A (evalAll ((backToKw pos (keywordEach kws X.env)).map (·.2))) Z X.xe s := thn (hk.pk.run pos pins s σ H Q I h) fun ws s1 ⟨zs, H1, I1, r, q1⟩ => q ws s1 zs H1 I1 r q1
/-- the first one is not starred -/
theorem jc_cons (ha : JA X W (e :: es) tl Tl) (hk : JK X W kws tk Tk) (hall : ∀ pos, (backToKw pos (keywordEach kws X.env)).all (·.1.isSome) = true := by intro _; rfl) (hks : ∀ pos, (backToKw pos (keywordEach kws X.env)).filterMap (·.1) = ks := by intro _; rfl)
    (he : starEach (e :: es) X.env = (false, eval e X.env) :: starEach es X.env := by rfl) : JC X W (e :: es) kws ks (t2 tl tk ks.length) (d2 Tl Tk ks.length) :=
  ⟨fun pins s σ H Q f first pos R I h q => cw_any (evalArgs_kw2 (hall pos) (thn (ha.pa.run pos pins s σ H _ I h) fun us s1 ⟨vs, H1, I1, r, h1⟩ => kw_run hk I1 h1 fun ws s2 zs H2 I2 rz h2 => by
    rw [hks pos]
    exact q s2 H2 us ws vs zs I2 r rz h2.1 h2.2) he), sem_t2 ha.sem hk.sem⟩
/-- one starred one alone -/
theorem jc_lone (ha : JE X W e te Te) (hk : JK X W kws tk Tk) (hall : ∀ pos, (backToKw pos (keywordEach kws X.env)).all (·.1.isSome) = true := by intro _; rfl) (hks : ∀ pos, (backToKw pos (keywordEach kws X.env)).filterMap (·.1) = ks := by intro _; rfl)
    (he : starEach [.Starred e p] X.env = [(true, eval e X.env)] := by rfl) : JC X W [.Starred e p] kws ks (tLone X.K te tk ks.length) (dLone Te Tk ks.length) := by
  refine ⟨fun pins s σ H Q f first pos R I h q => ?_, fun Γ S Φ Ψ σ w g sl h hx Q q => ?_⟩
  · rw [he]
    refine cw_any (ea_lone (hall pos) (thn (ha.pe.run pins s σ H _ I h) fun u s1 ⟨x, H1, I1, rx, h1⟩ => kw_run hk I1 h1 fun ws s2 zs H2 I2 rz ⟨hl, a, xs, ex, hx, h2⟩ => ?_))
    subst ex
    obtain rfl : u = Value.ref a := rx
    refine StX.star_any I2 hx fun us s3 I3 rv => ?_
    rw [hks pos]
    exact q s3 H2 us ws xs zs I3 rv rz hl h2
  · refine ha.sem Γ S _ Ψ σ w g sl h hx _ fun v d w1 S1 e1 g1 r1 k1 => hk.sem Γ S1 _ Ψ σ w1 g1 (sl.ext e1) k1 (hx.ext e1) _ fun zs es w2 S2 e2 g2 r2 ⟨hl, ds, ed, k2⟩ => ⟨by rw [r2.length]; exact hl, ?_⟩
    obtain ⟨a, xs, rfl, hq, ra⟩ := asS_at g2 (e2.rp r1) ed
    exact ⟨a, xs, rfl, hq.symm, q xs zs ds es w2 S2 (e1.trans e2) g2 ra r2 k2⟩
/-- a starred one among others -/
theorem ja_star (ha : JE X W e te Te) (hr : JA X W es tl Tl) (hs : starEach (.Starred e p :: es) X.env = (true, eval e X.env) :: starEach es X.env := by rfl) : JA X W (.Starred e p :: es) (StX.tStar X.K te tl) (lStar Te Tl) :=
  ⟨StX.pa_star ha.pe hr.pa hs, fun Γ S Φ Ψ σ w g sl h hx Q q => ha.sem Γ S _ Ψ σ w g sl h hx _ fun v d w1 S1 e1 g1 r1 ⟨ds, ed, k1⟩ => by
    obtain ⟨a, xs, rfl, hq, ra⟩ := asS_at g1 r1 ed
    exact ⟨a, xs, rfl, hq.symm, hr.sem Γ S1 _ Ψ σ w1 g1 (sl.ext e1) k1 (hx.ext e1) _ fun vs ds2 w2 S2 e2 g2 r2 k2 => q _ _ w2 S2 (e1.trans e2) g2 ((e2.ra ra).append r2) k2⟩⟩
end
abbrev DSpK := List D → List D → Sto → KD → KX → Prop
def spK (K : PySem.W.Frag) (sp : DSpK) (vs zs : List V) (H : Hp) (Q : VK) (E : XK) : Prop := ∃ w S ds es Φ Ψ, w.H = H ∧ Good K w S ∧ Ra K w vs ds ∧ Ra K w zs es ∧ sp ds es S Φ Ψ ∧ OkD K w Φ Q ∧
  ∀ cv dx x w' S', Ext w w' → Good K w' S' → RpX K w' cv dx x → Ψ S' x → E cv dx w'.H
structure FnK (P : Program) (wd : World) (K : PySem.W.Frag) (mg : Str → Option Value) (base : Heap) (k : Nat) (f : Addr) (ks : List Str) (sp : DSpK) : Prop where
  kp : PySem.W.keepIn K (.ref f) = true
  go : ∀ (A : Around) (outer : List Env) (s : Shared) (H : Hp) (us ws : List Value) (vs zs : List V) (Q : VK) (E : XK), A.guards = some [] → Room k A → Env0 P wd K mg base A outer s H → Vals vs us → Vals zs ws → zs.length = ks.length → spK K sp vs zs H Q E →
    codeAny (model P wd) A (.call (.ref f) ⟨us, ks.zip ws⟩) (CR (L2.CX P wd) outer P wd H s Q E) s
/-- a def's promise, called with n values: the parameters' places in values, defaults, keywords; with a star parameter behind a values -/
def pkP (n : Nat) (perm : List Nat) (md : List D) (sp : DSpec) : DSpK := fun ds es S Φ Ψ => ds.length = n ∧ sp (pick perm (ds ++ md) es) S Φ Ψ
def pkS (b : Bool) (a : Nat) (perm : List Nat) (md : List D) (sp : DSpec) : DSpK := fun ds es S Φ Ψ => (ds.take a).length = a ∧ (b = false → ds.drop a = []) ∧ (ds.drop a).length ≤ sizeLine ∧ sp (pick perm (ds.take a ++ md) es ++ [.tup (ds.drop a)]) S Φ Ψ
/-- the names looked up, one behind another, then m -/
def KwTo {α : Type} (D : Addr) : List (Str × Value) → Sem α → Sem α → Prop
  | [], t, m => t = m
  | q :: l, t, m => ∃ (β γ : Type) (k1 : Option Value → Sem β) (k2 : β → Sem γ) (k3 : γ → Sem α) (a : β), t = ((nsGet D q.1 >>= k1) >>= k2) >>= k3 ∧ k1 (some q.2) = pure a ∧ KwTo D l (k2 a >>= k3) m
theorem KwTo.wp {α : Type} {K : PySem.W.Frag} {M : Model} {A : Around} {E : Value → Shared → Prop} {Q : α → Shared → Prop} {s : Shared} {D : Addr} (X : K.In s.heap) : ∀ {l : List (Str × Value)} {t m : Sem α}, (∀ q ∈ l, PySem.W.nsIn K D q.1 = some (some q.2)) → KwTo D l t m → wpAny M A m Q E s → wpAny M A t Q E s
  | [], t, m, _, e, h => by
    obtain rfl : t = m := e
    exact h
  | q :: l, t, m, hl, ⟨β, γ, k1, k2, k3, a, e1, e2, e3⟩, h => by
    have l1 : PySem.W.Looks M s.heap (nsGet D q.1 >>= k1) a := (PySem.W.looks_nsIn X (hl q List.mem_cons_self)).andThen (PySem.W.Looks.of_pure e2)
    rw [e1, bind_assoc]
    exact wpAny_bind (l1.here (KwTo.wp X (fun p hp => hl p (List.mem_cons_of_mem _ hp)) e3 h))
/-- the lacking keyword-only ones -/
theorem kwd_of {K : PySem.W.Frag} {kV : Value} {kws ms : List (Str × V)} (h : KwdV K kV kws) (hm : ∀ q ∈ ms, q ∈ kws) : ∃ (D : Addr) (mv : List Value), (ms = [] ∨ kV = .ref D) ∧ mv.length = ms.length ∧ Vals (ms.map (·.2)) mv ∧ ∀ q ∈ (ms.map (·.1)).zip mv, PySem.W.nsIn K D q.1 = some (some q.2) := by
  cases ms with
  | nil => exact ⟨0, [], .inl rfl, rfl, .nil, fun q hq => by cases hq⟩
  | cons m ms =>
    rcases h with e | ⟨D, e, hq⟩
    · subst e
      exact absurd (hm m List.mem_cons_self) (by simp)
    · obtain ⟨mv, hl, rk, hks⟩ := kwd_vals (ms := m :: ms) fun q hq2 => hq q (hm q hq2)
      exact ⟨D, mv, .inr e, hl, rk, hks⟩
theorem vals_pre : ∀ {vs : List V} {us : List Value} {n : Nat}, Vals vs us → ∃ u1 u2, us = u1 ++ u2 ∧ Vals (vs.take n) u1 ∧ Vals (vs.drop n) u2
  | vs, us, 0, r => ⟨[], us, rfl, .nil, r⟩
  | [], _, _ + 1, .nil => ⟨[], [], rfl, .nil, .nil⟩
  | v :: vs, _, n + 1, .cons a r => by
    obtain ⟨u1, u2, e, r1, r2⟩ := vals_pre (n := n) r
    exact ⟨_ :: u1, u2, by rw [e]; rfl, .cons a r1, r2⟩
section
variable {P : Program} {wd : World} {K : PySem.W.Frag} {mg : Str → Option Value} {base : Heap} {x qual : Str} {st : Stmt} {kws ms : List (Str × V)} {md : List D} {f : Addr} {fd : FuncData} {N ps ks : List Str} {k n : Nat} {perm : List Nat} {sp : DSpec}
abbrev BodyOk (P : Program) (wd : World) (K : PySem.W.Frag) (mg : Str → Option Value) (base : Heap) (N : List Str) (qual : Str) (st : Stmt) (f : Addr) (k : Nat) (sp : DSpec) : Prop :=
  ∀ (cdv : Value) (A : Around) (outer : List Env) (s : Shared) (H : Hp) (E : XK), (A.deeper (envOfC qual (defScope st) s.heap.objs.size f cdv)).guards = some [] → Room k (A.deeper (envOfC qual (defScope st) s.heap.objs.size f cdv)) →
    ∃ t T, JB (cxOf (L2.CX P wd) P wd K mg base N qual (defScope st) f cdv A outer s H E) (WD E) (defBody st) t T ∧ ∀ ds S Φ Ψ, sp ds S Φ Ψ → T { nx := fun _ S' => RetOk S Φ S' .non, rt := RetOk S Φ, er := ErOk S Ψ } (gstart N ds) S
/-- THE RULE: a def without a star parameter -/
theorem fnK_plain (F : FunD K x qual (defArgs st) (defBody st) (defScope st) [] kws f fd) (Sc : FnScope N ps (defScope st)) (hms : ∀ q ∈ ms, q ∈ kws) (hmd : ∀ w, Ra K w (ms.map (·.2)) md) (len : ∀ ds S Φ Ψ, sp ds S Φ Ψ → ds.length = ps.length)
    (hb : ∀ (D : Addr) (kV doc pm : Value) (an : Option Addr) (cdv ct : Value) (us mv ws : List Value), (ms = [] ∨ kV = .ref D) → us.length = n → mv.length = ms.length → ws.length = ks.length →
      KwTo D ((ms.map (·.1)).zip mv) (bindArgs (PySem.W.fnOf x qual (defArgs st) (defBody st) (defScope st) .none kV doc pm an cdv ct) ⟨us, ks.zip ws⟩) (pure (ps.zip (pick perm (us ++ mv) ws))))
    (hbody : BodyOk P wd K mg base N qual st f k sp) : FnK P wd K mg base (k + 1) f ks (pkP n perm md sp) := by
  refine ⟨F.kp, fun A outer s H us ws vs zs Q E gd hr e0 rv rz hl ⟨w, S, ds, es, Φ, Ψ, hH, g, r1, r2, ⟨hn, hsp⟩, q, hx⟩ => ?_⟩
  subst hH
  obtain ⟨oc, od, dV, kV, doc, pm, an, cdv, ct, osl, rfl, lk, hcd, hD, hK⟩ := F.ex
  obtain ⟨D, mv, h1, h2, rm, hks⟩ := kwd_of hK hms
  have KX : K.In s.heap := e0.mod.kin.keeps fun b o e => (e0.bs b o e).1
  have eD : dV = .none := hD.elim (fun z => z.2) fun z => absurd rfl z.1
  subst eD
  have bd := hb D kV doc pm an cdv ct us mv ws h1 (by rw [← rv.length, r1.length]; exact hn) (by rw [h2]) (by rw [← rz.length]; exact hl)
  have rr : Ra K w (pick perm (vs ++ ms.map (·.2)) zs) (pick perm (ds ++ md) es) := pick_ra (r1.append (hmd w)) r2 _
  have rp : Vals (pick perm (vs ++ ms.map (·.2)) zs) (pick perm (us ++ mv) ws) := pick_vals (rv.append rm) rz _
  have many := len _ _ _ _ hsp
  refine StX.run_bnd (N := N) (ps := ps) (G := fun xs H2 => xs = pick perm (vs ++ ms.map (·.2)) zs ∧ H2 = w.H) lk hcd Sc hr e0 (fun A' Ex Q' h => ?_) fun s2 H2 xs ⟨ex, eH⟩ hr' => ?_
  · exact KwTo.wp KX hks bd (wpAny_pure (h s w.H _ _ e0 Un.refl rfl (fun _ _ z => z) rp (by rw [rr.length]; exact many) ⟨rfl, rfl⟩))
  · subst ex eH
    obtain ⟨t, T, jb, hq⟩ := hbody cdv A outer s2 w.H E (by show A.guards = some []; exact gd) hr'
    exact ⟨t, jb.pss, body_ok2 jb.sem hq ⟨w, S, _, Φ, Ψ, rfl, g, rr, hsp, q, hx⟩⟩
/-- THE RULE: a def with a star parameter, behind a others -/
theorem fnK_star {pv : Str} {a : Nat} {b : Bool} (F : FunD K x qual (defArgs st) (defBody st) (defScope st) [] kws f fd) (Sc : FnScope N (ps ++ [pv]) (defScope st)) (hms : ∀ q ∈ ms, q ∈ kws) (hmd : ∀ w, Ra K w (ms.map (·.2)) md) (len : ∀ ds S Φ Ψ, sp ds S Φ Ψ → ds.length = ps.length + 1)
    (hb : ∀ (D : Addr) (kV doc pm : Value) (an : Option Addr) (cdv ct : Value) (us rest mv ws : List Value), (ms = [] ∨ kV = .ref D) → (b = false → rest = []) → us.length = a → mv.length = ms.length → ws.length = ks.length →
      KwTo D ((ms.map (·.1)).zip mv) (bindArgs (PySem.W.fnOf x qual (defArgs st) (defBody st) (defScope st) .none kV doc pm an cdv ct) ⟨us ++ rest, ks.zip ws⟩) (newTuple rest >>= fun t => pure (ps.zip (pick perm (us ++ mv) ws) ++ [(pv, t)])))
    (hbody : BodyOk P wd K mg base N qual st f k sp) : FnK P wd K mg base (k + 1) f ks (pkS b a perm md sp) := by
  refine ⟨F.kp, fun A outer s H us ws vs zs Q E gd hr e0 rv rz hl ⟨w, S, ds, es, Φ, Ψ, hH, g, r1, r2, ⟨hn, hb0, hz, hsp⟩, q, hx⟩ => ?_⟩
  subst hH
  obtain ⟨oc, od, dV, kV, doc, pm, an, cdv, ct, osl, rfl, lk, hcd, hD, hK⟩ := F.ex
  obtain ⟨D, mv, h1, h2, rm, hks⟩ := kwd_of hK hms
  have KX : K.In s.heap := e0.mod.kin.keeps fun b o e => (e0.bs b o e).1
  have eD : dV = .none := hD.elim (fun z => z.2) fun z => absurd rfl z.1
  subst eD
  obtain ⟨u1, u2, eu, ra1, ra2⟩ := vals_pre (n := a) rv
  subst eu
  have q1 : Ra K w (vs.take a) (ds.take a) := RpA.take a r1
  have q2 : Ra K w (vs.drop a) (ds.drop a) := RpA.drop a r1
  have bd := hb D kV doc pm an cdv ct u1 u2 mv ws h1 (fun e => List.eq_nil_of_length_eq_zero (by rw [← ra2.length, q2.length, hb0 e]; rfl)) (by rw [← ra1.length, q1.length]; exact hn) (by rw [h2]) (by rw [← rz.length]; exact hl)
  have rr : Ra K w (pick perm (vs.take a ++ ms.map (·.2)) zs) (pick perm (ds.take a ++ md) es) := pick_ra (q1.append (hmd w)) r2 _
  have rp : Vals (pick perm (vs.take a ++ ms.map (·.2)) zs) (pick perm (u1 ++ mv) ws) := pick_vals (ra1.append rm) rz _
  have many := len _ _ _ _ hsp
  rw [List.length_append] at many
  have many2 : (pick perm (ds.take a ++ md) es).length = ps.length := by simpa using many
  have lp : (pick perm (u1 ++ mv) ws).length = ps.length := by rw [← rp.length, rr.length]; exact many2
  have hz2 : u2.length ≤ sizeLine := by rw [← ra2.length, q2.length]; exact hz
  have hnew : w.H s.heap.objs.size = Option.none := e0.hok.fresh (Nat.le_refl _)
  refine StX.run_bnd (N := N) (ps := ps ++ [pv]) (G := fun xs H2 => ∃ p, w.H p = Option.none ∧ xs = pick perm (vs.take a ++ ms.map (·.2)) zs ++ [V.ref p] ∧ H2 = upd w.H p (.tup (vs.drop a))) lk hcd Sc hr e0 (fun A' Ex Q' h => ?_) fun s2 H2 xs ⟨p, hp, ex, eH⟩ hr' => ?_
  · refine KwTo.wp KX hks bd (wpAny_bind (wpAny_newTuple (wpAny_pure ?_) hz2))
    have made : ObjOk P wd (upd w.H s.heap.objs.size (.tup (vs.drop a))) (s.heap.push ({ cls := .type "tuple", data := .seq u2.toArray } : Obj)) s.heap.objs.size (.tup (vs.drop a)) := ⟨by rw [q2.length]; exact hz, u2, ra2, ⟨_, Heap.get?_push_size _ rfl, rfl, _, rfl⟩⟩
    have un := StX.un_laid (fs := frs outer) (s := s) (o := ({ cls := .type "tuple", data := .seq u2.toArray } : Obj)) (u := .tup (vs.drop a)) hnew
    have z := h _ _ (pick perm (vs.take a ++ ms.map (·.2)) zs ++ [V.ref s.heap.objs.size]) (pick perm (u1 ++ mv) ws ++ [Value.ref s.heap.objs.size]) (StX.env0_laid e0 made) un rfl
      (fun e s' => StX.cxUp outer s w.H _ _ E e s' un (fun b o q => Heap.get?_push_of_some _ q) rfl) (rp.append (.cons rfl .nil)) (by rw [List.length_append, List.length_append, rr.length, many2] <;> rfl) ⟨_, hnew, rfl, rfl⟩
    rw [List.zip_append lp.symm] at z
    exact z
  · subst ex eH
    obtain ⟨t, T, jb, hq⟩ := hbody cdv A outer s2 _ E (by show A.guards = some []; exact gd) hr'
    have ee := Ext.frz g (.tup (vs.drop a)) hp
    refine ⟨t, jb.pss, body_ok2 jb.sem hq ⟨w.frz p (.tup (vs.drop a)), S, _, Φ, Ψ, rfl, g.frz _ hp, (ee.ra rr).append (.cons (.tup (.inl (.inl upd_same)) (ee.ra q2)) .nil), hsp, q.ext ee, fun cv dx x w' S' e gg r hΨ => hx cv dx x w' S' (ee.trans e) gg r hΨ⟩⟩
end
end DL
namespace DL
open PySem PySem.Spec PyProof.Rows L2
theorem under_guards {A : Around} {C : Addr} {us : List Value} {kw : List (Str × Value)} : (A.under (.builtin "type.__call__" ⟨.ref C :: us, kw⟩)).guards = A.guards := by
  first | rfl | simp [Around.under, Code.weight, Code.isCreation, Code.isGuard, Code.isCaller, Code.frames, Code.isFrame, guardIds]
def dCallA (sp : DSpK) (T : TL2) : TD := fun Γ S Φ Ψ => T Γ S (fun S1 ds es => sp ds es S1 Φ Ψ) Ψ
def tMakeA (K : PySem.W.Frag) (C : Addr) (sp : DSpK) (W : WX) (t : TA2) : TE := fun σ H Q => t σ H fun vs zs H1 => ∀ x dx, H1 x = none → H1 dx = none → dx ≠ x → spK K sp (.ref x :: vs) zs (upd (upd H1 dx (.own x)) x (.ins C dx [])) (fun v H2 => v = .non ∧ Q (.ref x) H2) (WE W σ)
def dMakeA (C : Addr) (sp : DSpK) (T : TL2) : TD := fun Γ S Φ Ψ => T Γ S (fun S1 ds es => sp (.own S1.length :: ds) es (S1 ++ [.ins C []]) (fun S2 d => d = .non ∧ Φ S2 (.own S1.length)) Ψ) Ψ
def dMethA (C : Addr) (m : Str) (sp : DSpK) (To : TD) (T : TL2) : TD := fun Γ S Φ Ψ => To Γ S (fun S1 d => ∃ fs, asI S1 d = some (C, fs) ∧ fs.lookup m = none ∧ T Γ S1 (fun S2 ds es => sp (d :: ds) es S2 Φ Ψ) Ψ) Ψ
def tCMethA (K : PySem.W.Frag) (C : Addr) (sp : DSpK) (W : WX) (to : TE) (t : TA2) : TE := fun σ H Q => to σ H fun x H1 => x = .ref C ∧ t σ H1 fun vs zs H2 => spK K sp (.ref C :: vs) zs H2 Q (WE W σ)
def dCMethA (C : Addr) (sp : DSpK) (To : TD) (T : TL2) : TD := fun Γ S Φ Ψ => To Γ S (fun S1 d => d = .obj C ∧ T Γ S1 (fun S2 ds es => sp (.obj C :: ds) es S2 Φ Ψ) Ψ) Ψ
def tPropA (K : PySem.W.Frag) (C : Addr) (sp : DSpK) (to : TE) : TE := fun σ H Q => to σ H fun x H1 => ∃ a dx fs, x = .ref a ∧ H1 a = some (.ins C dx fs) ∧ spK K sp [x] [] H1 Q (fun _ _ _ => False)
def dPropA (C : Addr) (sp : DSpK) (To : TD) : TD := fun Γ S Φ Ψ => To Γ S (fun S1 d => ∃ fs, asI S1 d = some (C, fs) ∧ sp [d] [] S1 Φ (fun _ _ => False)) Ψ
/-- the class in a local name: cls(..) -/
def tMakeV (K : PySem.W.Frag) (i : Nat) (C : Addr) (sp : DSpK) (W : WX) (t : TA2) : TE := fun σ H Q => σ[i]? = some (some (.ref C)) ∧ tMakeA K C sp W t σ H Q
def dMakeV (i : Nat) (C : Addr) (sp : DSpK) (T : TL2) : TD := fun Γ S Φ Ψ => Γ[i]? = some (some (.obj C)) ∧ dMakeA C sp T Γ S Φ Ψ
section
variable {K : PySem.W.Frag} {W : WX} {sp : DSpK} {t : TA2} {T : TL2} {to : TE} {To : TD} {C : Addr} {m : Str}
theorem spk_of {w : Hs} {S : Sto} {vs zs : List V} {ds es : List D} {Φ : KD} {Ψ : KX} {Q : VK} {σ : L2.St} {w0 : Hs} (g : Good K w S) (r : Ra K w vs ds) (rz : Ra K w zs es) (h : sp ds es S Φ Ψ) (q : OkD K w Φ Q) (e : Ext w0 w) (hx : OkX K W w0 Ψ σ) : spK K sp vs zs w.H Q (WE W σ) :=
  ⟨w, S, ds, es, Φ, Ψ, rfl, g, r, rz, h, q, fun cv dx x w' S' e2 gg rr hΨ => hx cv dx x w' S' (e.trans e2) gg rr hΨ⟩
theorem sem_makeA (h : SemA2 K W t T) : SemE K W (tMakeA K C sp W t) (dMakeA C sp T) := fun Γ S Φ Ψ σ w g sl hT hx Q q =>
  h Γ S _ Ψ σ w g sl hT hx _ fun vs zs ds es w1 S1 e1 g1 r1 r2 h1 => fun x dx h0 hd _ => by
    have e2 : Ext w1 (w1.celI x dx C) := Ext.celI g1 h0 hd
    have own : Rv K (w1.celI x dx C) (.ref x) (.own S1.length) := .own (at_last g1.len)
    refine spk_of (g1.celI h0 hd) (.cons own (e2.ra r1)) (e2.ra r2) h1 ?_ (e1.trans e2) hx
    rintro v d w3 S3 e3 g3 r3 ⟨ed, h3⟩
    subst ed
    exact ⟨rv_non r3, q (.ref x) (.own S1.length) w3 S3 ((e1.trans e2).trans e3) g3 (e3.rp own) h3⟩
theorem sem_makeV {i : Nat} (h : SemA2 K W t T) : SemE K W (tMakeV K i C sp W t) (dMakeV i C sp T) := fun Γ S Φ Ψ σ w g sl ⟨hi, hT⟩ hx Q q => by
  obtain ⟨v, hv, r⟩ := sl.2 i _ hi
  cases r
  exact ⟨hv, sem_makeA h Γ S Φ Ψ σ w g sl hT hx Q q⟩
theorem sem_cmethA (ho : SemE K W to To) (h : SemA2 K W t T) : SemE K W (tCMethA K C sp W to t) (dCMethA C sp To T) := fun Γ S Φ Ψ σ w g sl hT hx Q q =>
  ho Γ S _ Ψ σ w g sl hT hx _ fun v d w1 S1 e1 g1 r1 ⟨ed, h1⟩ => by
    subst ed
    cases r1
    exact ⟨rfl, h Γ S1 _ Ψ σ w1 g1 (sl.ext e1) h1 (hx.ext e1) _ fun us zs ds es w2 S2 e3 g2 r2 r3 h2 => spk_of g2 (.cons (.obj C) r2) r3 h2 (q.ext (e1.trans e3)) (e1.trans e3) hx⟩
theorem sem_propA (ho : SemE K W to To) : SemE K W (tPropA K C sp to) (dPropA C sp To) := fun Γ S Φ Ψ σ w g sl hT hx Q q =>
  ho Γ S _ Ψ σ w g sl hT hx _ fun v d w1 S1 e1 g1 r1 ⟨fs, e2, h1⟩ => by
    obtain ⟨a, dx, vs, rfl, hH, rf⟩ := asI_at g1 r1 e2
    exact ⟨a, dx, vs, rfl, hH, w1, S1, [d], [], Φ, _, rfl, g1, .cons r1 .nil, .nil, h1, q.ext e1, fun _ _ _ _ _ _ _ _ z => z.elim⟩
end
section
variable {X : Cx} {W : WX} {o : Expr} {es : List Expr} {kws : List Keyword} {ks : List Str} {t : TA2} {T : TL2} {to : TE} {To : TD} {C : Addr} {m x : Str} {pos apos p : Pos} {k : Nat} {sp : DSpK} {f : Addr}
/-- the callee's run -/
theorem runK {pins : List (Addr × Obj)} {σ : L2.St} {H : Hp} {s : Shared} {Q : VK} {us ws : List Value} {vs zs : List V} (F : FnK X.prog X.w X.K X.mg X.base k f ks sp) (gd : X.A.guards = some []) (hr : Room k X.A) (tk : Takes X W) (I : Inv X pins σ H s) (r : Vals vs us) (rz : Vals zs ws) (hl : zs.length = ks.length)
    (h : spK X.K sp vs zs H Q (WE W σ)) : codeAny (model X.prog X.w) X.A (.call (.ref f) ⟨us, ks.zip ws⟩) (fun r s' => match r with | .ok (.ret v) => EP X pins σ Q v s' | .ok _ => False | .error e => X.xe e s') s := by
  refine codeAny_mono (F.go X.A X.stack s H us ws vs zs Q _ gd hr I.env0 r rz hl h) fun rr s2 hq => ?_
  match rr, hq with
  | .error u, hq => exact passAt tk σ pins H s u s2 I hq
  | .ok (.ret u), hq => exact I.after hq
  | .ok .next, hq => exact False.elim hq
  | .ok .brk, hq => exact False.elim hq
  | .ok .cont, hq => exact False.elim hq
/-- a class and its __init__ -/
structure CtorK (P : Program) (wd : World) (K : PySem.W.Frag) (mg : Str → Option Value) (base : Heap) (C : Addr) (k : Nat) (ks : List Str) (sp : DSpK) : Prop where
  ex : ∃ fi, Mk K C fi ∧ FnK P wd K mg base k fi ks sp
theorem goCtor {pins : List (Addr × Obj)} {σ : L2.St} {H : Hp} {s : Shared} {Q : VK} {us ws : List Value} {vs zs : List V} (c : CtorK X.prog X.w X.K X.mg X.base C k ks sp) (gd : X.A.guards = some []) (hr : Room (k + 1) X.A) (tk : Takes X W) (I : Inv X pins σ H s) (r : Vals vs us) (rz : Vals zs ws) (hl : zs.length = ks.length)
    (h : ∀ x dx, H x = none → H dx = none → dx ≠ x → spK X.K sp (.ref x :: vs) zs (upd (upd H dx (.own x)) x (.ins C dx [])) (fun v H2 => v = .non ∧ Q (.ref x) H2) (WE W σ)) : Keeps (model X.prog X.w) (.ref C) s.heap ∧ wpAny (model X.prog X.w) X.A (call (.ref C) us (ks.zip ws)) (EP X pins σ Q) X.xe s := by
  obtain ⟨fi, M, F⟩ := c.ex
  refine ⟨PySem.W.keeps_K M.kp _ I.kIn, ?_⟩
  have hs := h (s.heap.objs.size + 1) s.heap.objs.size (I.hok.fresh (Nat.le_succ _)) (I.hok.fresh (Nat.le_refl _)) (Nat.ne_of_lt (Nat.lt_succ_self _))
  have J := Inv.made (C := C) I
  have rr : Vals (V.ref (s.heap.objs.size + 1) :: vs) (Value.ref (s.heap.objs.size + 1) :: us) := .cons rfl r
  refine wpAny_call (make_map (f := fi) I.kIn M.makes M.init (beq_iff_eq.mp M.fn) (codeAny_mono (F.go _ X.stack _ _ _ ws _ zs _ _ (under_guards.trans gd) (hr.make C us (ks.zip ws)) (J.env0.make C us (ks.zip ws)) rr rz hl hs) fun z s2 hz => ?_))
  match z, hz with
  | .error u, hz => exact passAt tk σ pins _ _ u s2 J hz
  | .ok (.ret u), hz =>
    obtain ⟨v, H2, J2, rv, ev, q2⟩ := J.after hz
    subst ev
    exact ⟨rv, ⟨V.ref (s.heap.objs.size + 1), H2, J2, rfl, q2⟩⟩
  | .ok .next, hz => exact False.elim hz
  | .ok .brk, hz => exact False.elim hz
  | .ok .cont, hz => exact False.elim hz
theorem je_makeV (i : Nat) (c : CtorK X.prog X.w X.K X.mg X.base C k ks sp) (gd : X.A.guards = some []) (hr : Room (k + 1) X.A) (tk : Takes X W) (ha : JC X W es kws ks t T) (hN : X.N[i]? = some x := by rfl) (hv : Vis X.env.scope x := by first | exact Or.inl rfl | exact Or.inr (Or.inl rfl) | exact Or.inr (Or.inr rfl))
    (hdb : (x == ("__debug__" : Str)) = false := by decide) (hcd : (x == ("__classdict__" : Str)) = false := by decide) : JE X W (.Call (.Name x p) es kws pos) (tMakeV X.K i C sp W t) (dMakeV i C sp T) := by
  refine ⟨⟨fun pins s σ H Q I ⟨hi, h⟩ => wpAny_Call_Name_kw (thn ((pe_var (pos := p) hN hv hdb hcd).run pins s σ H (fun v H1 => v = .ref C ∧ H1 = H) I ⟨.ref C, hi, rfl, rfl⟩) fun u s1 ⟨v, H1, I1, r1, q1⟩ => ?_)⟩, sem_makeV ha.sem⟩
  obtain ⟨rfl, rfl⟩ := q1
  cases r1
  exact ha.run pins s1 σ _ _ _ [] pos _ I1 h fun s2 H2 us ws vs zs I2 r rz hl h1 => goCtor c gd hr tk I2 r rz hl h1
/-- a class method, read off the class -/
structure CMetK (P : Program) (wd : World) (K : PySem.W.Frag) (mg : Str → Option Value) (base : Heap) (C : Addr) (m : Str) (k : Nat) (ks : List Str) (sp : DSpK) : Prop where
  ex : ∃ mc p g, ClX.CRead K C mc ∧ ClX.CMet K C mc m p g ∧ FnK P wd K mg base k g ks sp
theorem je_cmethA {pl : Sem Bool} (c : CMetK X.prog X.w X.K X.mg X.base C m k ks sp) (gd : X.A.guards = some []) (hr : Room k X.A) (tk : Takes X W) (ho : JE X W o to To) (ha : JC X W es kws ks t T)
    (ht : eval (.Call (.Attribute o m apos) es kws pos) X.env = (do
      let ov ← eval o X.env
      standAt apos.atName
      let (f, first) ← holding [ov] (getMethod ov m pl)
      callWith pos f first (backTo pos (starEach es X.env)) (backToKw pos (keywordEach kws X.env))) := by rfl) :
    JE X W (.Call (.Attribute o m apos) es kws pos) (tCMethA X.K C sp W to t) (dCMethA C sp To T) := by
  obtain ⟨mc, pp, g, cr, cm, F⟩ := c.ex
  refine ⟨⟨fun pins s σ H Q I h => PySem.W.methodCall_KW (pl := pl) (thn (ho.pe.run pins s σ H _ I h) fun u s1 ⟨y, H1, I1, rx, ex, q⟩ => ?_) ht⟩, sem_cmethA ho.sem ha.sem⟩
  subst ex
  obtain rfl : u = Value.ref C := rx
  refine ClX.getmethcm_ok I1 cr cm fun s2 I2 => ha.run _ s2 σ H1 _ _ [] pos _ I2 q fun s3 H2 us ws vs zs I3 r rz hl h1 => ⟨PySem.W.keeps_M cm.fi _ ⟨ClX.pin_at I3, I3.kIn⟩, ?_⟩
  exact thn (wpAny_call (PySem.W.method_call (ClX.pin_at I3) (runK (us := .ref C :: us) (vs := .ref C :: vs) F gd hr tk I3 (.cons rfl r) rz hl h1))) fun _ _ y => ClX.unpinE y
/-- a property -/
structure PropK (P : Program) (wd : World) (K : PySem.W.Frag) (mg : Str → Option Value) (base : Heap) (C : Addr) (m : Str) (k : Nat) (sp : DSpK) : Prop where
  cl : Cls K C
  ex : ∃ p g, PropOf K C m p g ∧ FnK P wd K mg base k g [] sp
theorem je_propA (c : PropK X.prog X.w X.K X.mg X.base C m k sp) (gd : X.A.guards = some []) (hr : Room (k + 1) X.A) (ho : JE X W o to To) (hb : attributeBase o m X.env (eval o X.env) = eval o X.env := by rfl) : JE X W (.Attribute o m pos) (tPropA X.K C sp to) (dPropA C sp To) := by
  obtain ⟨pp, g, hp, F⟩ := c.ex
  refine ⟨⟨fun pins s σ H Q I h => attr_of hb (thn (ho.pe.run pins s σ H _ I h) fun u s1 ⟨y, H1, I1, rx, a, dx, fs, ex, ea, q⟩ => ?_)⟩, sem_propA ho.sem⟩
  subst ex
  obtain rfl : u = Value.ref a := rx
  obtain ⟨mA, O, _, _, _, _⟩ := ins_get I1.hok ea
  obtain ⟨od, J, _⟩ := O.look
  obtain ⟨rest, hrec⟩ := hp.rec_
  have I2 := I1.tok (s1.toks + 1)
  have hc : (PySem.W.clsIn X.K C).isSome = true := by
    obtain ⟨cd, hc, _⟩ := PySem.W.any_some c.cl.hd
    rw [hc]
    rfl
  refine PySem.W.get_bind I1.kIn J (PySem.W.plainGet_of (c.cl.get m)).1 (PySem.W.findObj_data hc hp.at_ hp.get hp.tak) (PySem.W.plainGet_of (c.cl.get m)).2 (wpAny_call (PySem.W.prop_get (s := { s1 with toks := s1.toks + 1 }) I1.kIn hrec ?_))
  refine codeAny_mono (F.go X.A.in1 X.stack { s1 with toks := s1.toks + 1 } H1 [.ref a] [] [.ref a] [] Q _ gd hr.in1 I2.env0.in1 (.cons rfl .nil) .nil rfl q) fun rr s2 hq => ?_
  match rr, hq with
  | .error u, ⟨_, _, _, _, _, _, _, _, _, _, _, _, z⟩ => exact z.elim
  | .ok (.ret u), hq =>
    obtain ⟨v, H', I3, rv, q3⟩ := I2.after hq
    show wpAny _ _ (handedOut u) _ _ _
    rw [PySem.W.handedOut_of (handed_of rv)]
    exact wpAny_pure ⟨v, H', I3, rv, q3⟩
  | .ok .next, hq => exact False.elim hq
  | .ok .brk, hq => exact False.elim hq
  | .ok .cont, hq => exact False.elim hq
end
def fzID (d : D) (S : Sto) (Φ : KD) : Prop := match d with
  | .own h => ∃ C fs, S[h]? = some (.ins C fs) ∧ Φ (S.set h .gone) (.ins C fs)
  | d => Φ S d
def dFzI (T : TD) : TD := fun Γ S Φ Ψ => T Γ S (fun S1 d => fzID d S1 Φ) Ψ
theorem fzI_ok {K : PySem.W.Frag} {w : Hs} {S : Sto} (g : Good K w S) {Φ : KD} {Q : VK} {v : V} {d : D} (r : Rv K w v d) (h : fzID d S Φ) (q : OkD K w Φ Q) : Q v w.H := by
  have other : Φ S d → Q v w.H := fun z => q v d w S (Ext.refl w) g r z
  cases d with
  | own hh =>
    obtain ⟨C, fs, e, hΦ⟩ := h
    obtain ⟨a, dx, vs, rfl, ha, hH, rf⟩ := ins_at g r e
    have hm : a ∈ w.al := List.mem_of_getElem? ha
    have hF : w.F a = none := (g.cell hh a _ ha e).1
    have ee : Ext w (w.fz a (.ins C dx vs)) := Ext.fz hm hF
    exact q (.ref a) (.ins C fs) (w.fz a (.ins C dx vs)) _ ee (g.fzC ha e (fun z => nomatch z) hH) (.ins upd_same (RpF.mono ee.f ee.alx fs vs rf)) hΦ
  | _ => exact other h
theorem je_fzI {X : Cx} {W : WX} {e : Expr} {t : TE} {T : TD} (h : JE X W e t T) : JE X W e t (dFzI T) := ⟨h.pe, fun Γ S Φ Ψ σ w g sl hT hx Q q =>
  h.sem Γ S _ Ψ σ w g sl hT hx Q fun v d w1 S1 e1 g1 r1 h1 => fzI_ok g1 r1 h1 (q.ext e1)⟩
end DL
namespace DL
open PySem PySem.Spec PyProof.Rows L2
abbrev FaX : Type := PySem.W.Frag → Bool
def obsX (fa : List FaX) (fn : List He5.DefA) (K : PySem.W.Frag) : He.AlD := ((fa.all fun f => f K) && fn.all fun d => d.ok K, fn.map fun d => He5.fnA K (d.at_ K))
def SaysX (fa : List FaX) (fn : List He5.DefA) (K : PySem.W.Frag) : Prop := obsX fa fn K = He5.valA fn
def obsXG (n : Nat) (fa : List FaX) (fn : List He5.DefA) (g : Addr → Option Obj) : He.AlD := obsX fa fn (He.frG g (He5.asA g n))
def hookX (n : Nat) (fa : List FaX) (fn : List He5.DefA) : PySem.W.Hook where
  α := He.AlD
  obs := fun s => obsXG n fa fn s.heap.get?
  val := fun _ => He5.valA fn
  says := fun _ h => ∃ K : PySem.W.Frag, K.In h ∧ SaysX fa fn K
  of := fun _ _ e => ⟨_, He.frG_in, e⟩
  keeps := fun _ _ _ ⟨K, hK, c⟩ k => ⟨K, PySem.W.Frag.In.keeps hK k, c⟩
theorem obsXG_eq {n : Nat} {fa : List FaX} {fn : List He5.DefA} {g : Addr → Option Obj} {s : Shared} (h : ∀ a, g a = s.heap.get? a) : obsXG n fa fn g = (hookX n fa fn).obs s := by
  have e : g = s.heap.get? := funext h
  rw [e] <;> rfl
section
variable {fa : List FaX} {fn : List He5.DefA} {K : PySem.W.Frag}
theorem SaysX.all (c : SaysX fa fn K) : (fa.all fun f => f K) = true ∧ (fn.all fun d => d.ok K) = true := by
  have c1 : ((fa.all fun f => f K) && fn.all fun d => d.ok K) = true := congrArg (fun z : He.AlD => z.1) c
  exact Bool.and_eq_true_iff.mp c1
theorem SaysX.fact (c : SaysX fa fn K) (i : Nat) {f : FaX} (h : fa[i]? = some f := by rfl) : f K = true := List.all_eq_true.mp c.all.1 f (List.mem_of_getElem? h)
theorem SaysX.def_ (c : SaysX fa fn K) (i : Nat) {d : He5.DefA} (h : fn[i]? = some d := by rfl) : ∃ fd, FunD K d.name d.qual d.params d.body d.scope (d.dvs K) (d.kws K) (d.at_ K) fd := by
  have e : fn.map (fun d => He5.fnA K (d.at_ K)) = fn.map He5.DefA.val := congrArg (fun z : He.AlD => z.2) c
  have e2 : (fn.map fun d => He5.fnA K (d.at_ K))[i]? = (fn.map He5.DefA.val)[i]? := by rw [e]
  rw [List.getElem?_map, List.getElem?_map, h] at e2
  exact He5.DefA.funD (Option.some.inj e2) (List.all_eq_true.mp c.all.2 d (List.mem_of_getElem? h))
end
section
variable {K : PySem.W.Frag} {x f m : Str}
open He
def bProp (x f : Str) : FaX := fun K => eqO (PySem.W.findIn K (.ref (ga K x)) f) (some (some (.ref (ma K (ga K x) f)))) && (eqO (PySem.W.specialIn K (.ref (ma K (ga K x) f)) "__get__") (some (some (.builtin "property.__get__"))) && (decide (PySem.W.takesIn K (.ref (ma K (ga K x) f)) = some true) &&
  (match PySem.W.recIn K (ma K (ga K x) f) "property" with
    | some (.ref _ :: _) => true
    | _ => false)))
theorem bProp_ok (h : bProp x f K = true) : PropOf K (ga K x) f (ma K (ga K x) f) (He5.wf K (ga K x) "property" f) := by
  obtain ⟨h1, h⟩ := ba h
  obtain ⟨h2, h⟩ := ba h
  obtain ⟨h3, h4⟩ := ba h
  refine ⟨eqO_ok h1, eqO_ok h2, of_decide_eq_true h3, ?_⟩
  unfold He5.wf
  split at h4
  · rename_i g r e
    exact ⟨r, by rw [e]⟩
  · cases h4
def bCMet (x m : Str) : FaX := fun K => He5.wrapB K (ga K x) "classmethod" "classmethod.__get__" m && PySem.W.fnIn K (He5.wf K (ga K x) "classmethod" m)
theorem bCMet_ok (h : bCMet x m K = true) : ClX.CMet K (ga K x) (.type "type") m (ma K (ga K x) m) (He5.wf K (ga K x) "classmethod" m) := by
  obtain ⟨h1, h2⟩ := ba h
  obtain ⟨k1, k2⟩ := He5.wrapB_ok h1
  exact ⟨k1, k2, h2⟩
def bCRd (x : Str) : FaX := fun K => PySem.W.readsIn K (ga K x) (.type "type") && eqO (PySem.W.specialIn K (.ref (ga K x)) "__getattribute__") (some (some (.builtin "type.__getattribute__")))
theorem bCRd_ok (h : bCRd x K = true) : ClX.CRead K (ga K x) (.type "type") := ⟨(ba h).1, eqO_ok (ba h).2⟩
end
end DL
namespace DL
open PySem PySem.Spec PyProof.Rows L2
/-- a, b, .. = a list of that length -/
def lstG (n : Nat) (T : TGs') : TGd := fun d Γ S P => ∃ ds, asQ S d = some ds ∧ ds.length = n ∧ T ds Γ S P
section
variable {Γ : Gam} {S : Sto} {Φ : KD} {Ψ : KX}
theorem lstG_e {n : Nat} {T : TGs'} {d : D} {P : Gam → Sto → Prop} : lstG n T d Γ S P = (∃ ds, asQ S d = some ds ∧ ds.length = n ∧ T ds Γ S P) := rfl
theorem d2_e {T Tk : TL} {n : Nat} {Φ : Sto → List D → List D → Prop} : d2 T Tk n Γ S Φ Ψ = (T Γ S (fun S1 ds => Tk Γ S1 (fun S2 es => es.length = n ∧ Φ S2 ds es) Ψ) Ψ) := rfl
theorem dLone_e {T : TD} {Tk : TL} {n : Nat} {Φ : Sto → List D → List D → Prop} : dLone T Tk n Γ S Φ Ψ = (T Γ S (fun S1 d => Tk Γ S1 (fun S2 es => es.length = n ∧ ∃ ds, asS S2 d = some ds ∧ Φ S2 ds es) Ψ) Ψ) := rfl
theorem lStar_e {T : TD} {U : TL} {Φ : Sto → List D → Prop} : lStar T U Γ S Φ Ψ = (T Γ S (fun S1 d => ∃ ds, asS S1 d = some ds ∧ U Γ S1 (fun S2 xs => Φ S2 (ds ++ xs)) Ψ) Ψ) := rfl
theorem dCallA_e {sp : DSpK} {T : TL2} : dCallA sp T Γ S Φ Ψ = (T Γ S (fun S1 ds es => sp ds es S1 Φ Ψ) Ψ) := rfl
theorem dMakeA_e {C : Addr} {sp : DSpK} {T : TL2} : dMakeA C sp T Γ S Φ Ψ = (T Γ S (fun S1 ds es => sp (.own S1.length :: ds) es (S1 ++ [.ins C []]) (fun S2 d => d = .non ∧ Φ S2 (.own S1.length)) Ψ) Ψ) := rfl
theorem dMakeV_e {i : Nat} {C : Addr} {sp : DSpK} {T : TL2} : dMakeV i C sp T Γ S Φ Ψ = (Γ[i]? = some (some (.obj C)) ∧ dMakeA C sp T Γ S Φ Ψ) := rfl
theorem dMethA_e {C : Addr} {m : Str} {sp : DSpK} {To : TD} {T : TL2} : dMethA C m sp To T Γ S Φ Ψ = (To Γ S (fun S1 d => ∃ fs, asI S1 d = some (C, fs) ∧ fs.lookup m = none ∧ T Γ S1 (fun S2 ds es => sp (d :: ds) es S2 Φ Ψ) Ψ) Ψ) := rfl
theorem dCMethA_e {C : Addr} {sp : DSpK} {To : TD} {T : TL2} : dCMethA C sp To T Γ S Φ Ψ = (To Γ S (fun S1 d => d = .obj C ∧ T Γ S1 (fun S2 ds es => sp (.obj C :: ds) es S2 Φ Ψ) Ψ) Ψ) := rfl
theorem dPropA_e {C : Addr} {sp : DSpK} {To : TD} : dPropA C sp To Γ S Φ Ψ = (To Γ S (fun S1 d => ∃ fs, asI S1 d = some (C, fs) ∧ sp [d] [] S1 Φ (fun _ _ => False)) Ψ) := rfl
theorem dFld_e {C : Addr} {f : Str} {T : TD} : dFld C f T Γ S Φ Ψ = (T Γ S (fun S1 d => ∃ fs, asI S1 d = some (C, fs) ∧ ∃ y, fs.lookup f = some y ∧ Φ S1 y) Ψ) := rfl
theorem sFldS_e {E : EdD} {C : Addr} {f : Str} {To Te : TD} : sFldS C f To Te E Γ S = (Te Γ S (fun S1 y => To Γ S1 (fun S2 d => ∃ h fs, d = .own h ∧ S2[h]? = some (.ins C fs) ∧ fs.length < 1000 ∧ E.nx Γ (S2.set h (.ins C (putD f y fs)))) E.er) E.er) := rfl
theorem dFzI_e {T : TD} : dFzI T Γ S Φ Ψ = (T Γ S (fun S1 d => fzID d S1 Φ) Ψ) := rfl
theorem fzID_o {h : Nat} : fzID (.own h) S Φ = (∃ C fs, S[h]? = some (.ins C fs) ∧ Φ (S.set h .gone) (.ins C fs)) := rfl
theorem pkP_e {n : Nat} {perm : List Nat} {md ds es : List D} {sp : DSpec} : pkP n perm md sp ds es S Φ Ψ = (ds.length = n ∧ sp (pick perm (ds ++ md) es) S Φ Ψ) := rfl
theorem pkS_e {b : Bool} {a : Nat} {perm : List Nat} {md ds es : List D} {sp : DSpec} : pkS b a perm md sp ds es S Φ Ψ = ((ds.take a).length = a ∧ (b = false → ds.drop a = []) ∧ (ds.drop a).length ≤ sizeLine ∧ sp (pick perm (ds.take a ++ md) es ++ [.tup (ds.drop a)]) S Φ Ψ) := rfl
theorem asI_i {C : Addr} {fs : List (Str × D)} : asI S (.ins C fs) = some (C, fs) := rfl
end
end DL
namespace DL
open PySem PySem.Spec PyProof.Rows L2
/-- try: e / except c as n: y = n; all that e raises is of the classes Cs -/
def sKeep (Cs : List Addr) (i j : Nat) (T : TD) : TSd := fun E Γ S => T Γ S (fun S1 _ => E.nx Γ S1) (fun S1 x => x.cls ∈ Cs ∧ i < Γ.length ∧ E.nx (((Γ.set i (some (.exc x.cls x.fs))).set j (some (.exc x.cls x.fs))).set i none) S1)
end DL
namespace DL
open PySem PySem.Spec PyProof.Rows L2
/-- C() -/
def dMk0 (C : Addr) : TD := fun _ S Φ _ => Φ (S ++ [.ins C []]) (.own S.length)
end DL
namespace DL
open PySem PySem.Spec PyProof.Rows L2
def dSlS (d : D) (lo hi : Option Int) (S : Sto) (Φ : KD) : Prop := ∃ z, d = .str z ∧ z.length ≤ sizeLine ∧ Φ S (.str (cutS z lo hi))
/-- tuple(x), x a list -/
def cTup (ds : List D) (S : Sto) (Φ : KD) : Prop := match ds with
  | [d] => ∃ xs, asQ S d = some xs ∧ Φ S (.tup xs)
  | _ => False
end DL
namespace DL
open PySem PySem.Spec PyProof.Rows L2
section
variable {K : PySem.W.Frag} {x y f : Str}
open He
def bExm (x y : Str) : FaX := fun K => decide (PySem.W.exmOne K (.ref (ga K x)) (.ref (ga K y)) = some true)
theorem bExm_ok (h : bExm x y K = true) : PySem.W.exmOne K (.ref (ga K x)) (.ref (ga K y)) = some true := of_decide_eq_true h
/-- a text; a tuple of texts -/
def isS (s : Str) : Value → Bool
  | .str z _ => z == s
  | _ => false
def areS : List Str → List Value → Bool
  | [], [] => true
  | s :: r, u :: q => isS s u && areS r q
  | _, _ => false
def isT (K : PySem.W.Frag) (ss : List Str) : Value → Bool
  | .ref a => match K.lookup a with
    | some ⟨.type "tuple", _, .seq its _, _⟩ => decide (its.size ≤ 1000) && areS ss its.toList
    | _ => false
  | _ => false
theorem isS_ok {s : Str} {u : Value} (h : isS s u = true) : RelV (.str s) u := by
  cases u <;> first | (cases h; done) | skip
  rename_i z t
  have : z = s := beq_iff_eq.mp h
  subst this
  exact ⟨t, rfl⟩
theorem areS_ok {K : PySem.W.Frag} : ∀ {ss : List Str} {us : List Value}, areS ss us = true → Vals (ss.map V.str) us
  | [], [], _ => .nil
  | s :: r, u :: q, h => .cons (isS_ok (ba h).1) (areS_ok (K := K) (ba h).2)
  | [], _ :: _, h => by cases h
  | _ :: _, [], h => by cases h
theorem isT_ok {ss : List Str} {u : Value} (h : isT K ss u = true) : ∃ a, u = .ref a ∧ ∀ H : Hp, SqT K H a (ss.map V.str) := by
  unfold isT at h
  split at h
  · split at h
    · rename_i a _ dd its n sl e
      obtain ⟨h1, h2⟩ := ba h
      refine ⟨_, rfl, fun H => .inr ⟨_, its, n, e, rfl, rfl, ?_, areS_ok (K := K) h2⟩⟩
      exact Nat.le_trans (of_decide_eq_true h1) (by decide)
    · cases h
  · cases h
theorem rv_tupS {w : Hs} {a : Addr} {ss : List Str} (h : ∀ H : Hp, SqT K H a (ss.map V.str)) : Rv K w (.ref a) (.tup (ss.map D.str)) := by
  refine .tup (h _) ?_
  clear h
  induction ss with
  | nil => exact .nil
  | cons s r ih => exact .cons (.str s) ih
def cvOf (K : PySem.W.Frag) (x f : Str) (p : Value → Bool) : Bool := match PySem.W.findCls K (.ref (ga K x)) (.type "type") f with
  | some (.val u) => p u
  | _ => false
theorem cvOf_ok {p : Value → Bool} (h : cvOf K x f p = true) : ∃ u, p u = true ∧ ∀ v, RelV v u → ClX.CVal K (ga K x) (.type "type") f v u := by
  unfold cvOf at h
  split at h
  · rename_i u e
    exact ⟨u, h, fun v r => ⟨e, r⟩⟩
  · cases h
def bCVT (x f : Str) (ss : List Str) : FaX := fun K => bCRd x K && cvOf K x f (isT K ss)
theorem bCVT_ok {ss : List Str} (h : bCVT x f ss K = true) : CValF K (ga K x) f (.tup (ss.map D.str)) := by
  obtain ⟨h1, h2⟩ := ba h
  obtain ⟨u, h3, h4⟩ := cvOf_ok h2
  obtain ⟨a, rfl, h5⟩ := isT_ok h3
  exact ⟨_, .ref a, _, bCRd_ok h1, h4 _ rfl, fun w => rv_tupS h5⟩
end
end DL
namespace DL
open PySem PySem.Spec PyProof.Rows L2
section
variable {Γ : Gam} {S : Sto} {Φ : KD} {Ψ : KX}
theorem dMk0_e {C : Addr} : dMk0 C Γ S Φ Ψ = Φ (S ++ [.ins C []]) (.own S.length) := rfl
theorem sKeep_e {E : EdD} {Cs : List Addr} {i j : Nat} {T : TD} : sKeep Cs i j T E Γ S = T Γ S (fun S1 _ => E.nx Γ S1) (fun S1 x => x.cls ∈ Cs ∧ i < Γ.length ∧ E.nx (((Γ.set i (some (.exc x.cls x.fs))).set j (some (.exc x.cls x.fs))).set i none) S1) := rfl
theorem dCVal_e {tab : List (Addr × D)} {f : Str} {T : TD} : dCVal tab f T Γ S Φ Ψ = T Γ S (fun S1 d => ∃ C, d = .obj C ∧ ∃ y, (C, y) ∈ tab ∧ Φ S1 y) Ψ := rfl
theorem dConI_e {tab : List (Addr × D)} {f : Str} {T : TD} : dConI tab f T Γ S Φ Ψ = T Γ S (fun S1 d => ∃ C fs, asI S1 d = some (C, fs) ∧ fs.lookup f = none ∧ ∃ y, (C, y) ∈ tab ∧ Φ S1 y) Ψ := rfl
theorem cLen_s {z : Str} : cLen [.str z] S Φ = (z.length ≤ sizeLine ∧ Φ S (.int z.length)) := rfl
theorem dIx_s {z : Str} {i : Int} : dIx (.str z) (.int i) S Φ = (z.length ≤ sizeLine ∧ ∃ c, atI z.cps.toList i = some c ∧ Φ S (.str ⟨#[c]⟩)) := rfl
theorem dSlS_s {z : Str} {lo hi : Option Int} : dSlS (.str z) lo hi S Φ = (z.length ≤ sizeLine ∧ Φ S (.str (cutS z lo hi))) := propext ⟨fun ⟨_, e, h1, h2⟩ => by cases e; exact ⟨h1, h2⟩, fun h => ⟨z, rfl, h.1, h.2⟩⟩
theorem dAdd_s {a b : Str} : dAdd (.str a) (.str b) S Φ = (a.length + b.length ≤ sizeLine ∧ Φ S (.str (a ++ b))) := rfl
theorem cTup_l {ds : List D} : cTup [.lst ds] S Φ = Φ S (.tup ds) := propext ⟨fun ⟨_, e, h⟩ => by cases e; exact h, fun h => ⟨ds, rfl, h⟩⟩
end
end DL
namespace DL
open PySem PySem.Spec PyProof.Rows L2
section
variable {X : Cx} {W : WX} {o e : Expr} {to te : TE} {To Te : TD}
def dM1 (f : D → List D → Sto → KD → Prop) (To Te : TD) : TD := fun Γ S Φ Ψ => To Γ S (fun S1 d => (∃ a, d = .str a) ∧ Te Γ S1 (fun S2 y => f d [y] S2 Φ) Ψ) Ψ
def mSplit (d : D) (ds : List D) (S : Sto) (Φ : KD) : Prop := ∃ a b, d = .str a ∧ ds = [.str b] ∧ (b.length == 0) = false ∧ a.length + 2 ≤ sizeLine ∧ Φ S (.lst ((Txt.split a b).map D.str))
def cIntS (ds : List D) (S : Sto) (Φ : KD) : Prop := ∃ a n, ds = [.str a] ∧ PySem.intText? a = some n ∧ a.length ≤ 640 ∧ Φ S (.int n)
def cStrI (ds : List D) (S : Sto) (Φ : KD) : Prop := ∃ i : Int, ds = [.int i] ∧ i.natAbs.log2 < 1920 ∧ Φ S (.str (toString i))
def dSign (neg : Bool) (x y : D) (S : Sto) (Φ : KD) : Prop := ∃ (c : Nat) (z : Str), x = .str ⟨#[c]⟩ ∧ y = .str z ∧ Φ S (.bl (if neg then !decide (c ∈ z.cps.toList) else decide (c ∈ z.cps.toList)))
def signsD (z : Str) : List D := z.cps.toList.map fun c => D.str ⟨#[c]⟩
def iStrD (T : TD) : TId := fun Γ S Φ Ψ => T Γ S (fun S1 d => ∃ z, d = .str z ∧ Φ S1 (fun _ => some (signsD z))) Ψ
end
end DL
namespace DL
open PySem PySem.Spec PyProof.Rows L2
section
variable {X : Cx} {W : WX} {c : Expr} {body : List Stmt} {pos : Pos} {tt : TT} {tb : TS} {C : TB} {B : TSd}
theorem sem_while {K : PySem.W.Frag} (hc : SemT K W tt C) (hb : SemS K W tb B) : SemS K W (tWhile tt tb) (sWhile C B) := fun D' Γ S σ w D g sl ⟨P, ⟨m0, h0⟩, hs⟩ r => by
  refine ⟨fun m σ' H' => ∃ w' Γ' S', H' = w'.H ∧ Ext w w' ∧ Good K w' S' ∧ Slots K w' σ' Γ' ∧ P m Γ' S', ⟨m0, w, Γ, S, rfl, Ext.refl w, g, sl, h0⟩, ?_⟩
  rintro m σ' H' ⟨w', Γ', S', rfl, e', g', sl', p⟩
  refine hc Γ' S' _ _ σ' w' g' sl' (hs m Γ' S' p) ((r.ext e').er σ') _ fun k w2 S2 e2 g2 h2 => ?_
  have e02 := e'.trans e2
  cases k with
  | false => exact r.nx σ' Γ' w2 S2 e02 g2 (sl'.ext e2) h2
  | true =>
    refine ⟨fun σ3 H3 => ∃ m', m' < m ∧ ∃ w3 Γ3 S3, H3 = w3.H ∧ Ext w w3 ∧ Good K w3 S3 ∧ Slots K w3 σ3 Γ3 ∧ P m' Γ3 S3, fun _ _ x => x, ?_⟩
    have step : OkN K w2 (fun Γ2 S2 => ∃ m', m' < m ∧ P m' Γ2 S2) (fun σ3 H3 => ∃ m', m' < m ∧ ∃ w3 Γ3 S3, H3 = w3.H ∧ Ext w w3 ∧ Good K w3 S3 ∧ Slots K w3 σ3 Γ3 ∧ P m' Γ3 S3) :=
      fun σ3 Γ3 w3 S3 e3 g3 sl3 ⟨m', l, hp⟩ => ⟨m', l, w3, Γ3, S3, rfl, e02.trans e3, g3, sl3, hp⟩
    have r2 := r.ext e02
    exact hb _ Γ' S2 σ' w2 _ g2 (sl'.ext e2) h2 ⟨step, r2.rt, r2.nx, step, r2.er⟩
theorem js_while (hp : PassesOwn (model X.prog X.w) X.A X.env X.xe) (hc : JT X W c tt C) (hb : JB X W body tb B) : JS X W (.While c body [] pos) (tWhile tt tb) (sWhile C B) := ⟨ps_while hp hc.pt hb.pss, sem_while hc.sem hb.sem⟩
theorem sWhile_e {D : EdD} {Γ : Gam} {S : Sto} : sWhile C B D Γ S = ∃ P : Nat → Gam → Sto → Prop, (∃ m, P m Γ S) ∧ ∀ m Γ' S', P m Γ' S' → C Γ' S' (fun S1 k => if k = true then B { D with nx := fun Γ2 S2 => ∃ m', m' < m ∧ P m' Γ2 S2, ct := fun Γ2 S2 => ∃ m', m' < m ∧ P m' Γ2 S2, bk := D.nx } Γ' S1 else D.nx Γ' S1) D.er := rfl
end
end DL
namespace DL
open PySem PySem.Spec PyProof.Rows L2
def sRaiseI (C : Addr) (f : Str) (T : TD) : TSd := fun D Γ S => T Γ S (fun S1 d => D.er S1 ⟨C, [(f, d)]⟩) D.er
end DL
namespace DL
open PySem PySem.Spec PyProof.Rows L2
section
variable {X : Cx} {W : WX} {e : Expr} {te : TE} {Te : TD} {f : Str} {pos : Pos}
/-- x.f, x a kept exception of one of the classes Cs -/
def dXFld (Cs : List Addr) (f : Str) (T : TD) : TD := fun Γ S Φ Ψ => T Γ S (fun S1 d => ∃ D fs y, d = .exc D fs ∧ D ∈ Cs ∧ fs.lookup f = some y ∧ Φ S1 y) Ψ
end
end DL
namespace DL
open PySem PySem.Spec PyProof.Rows L2
theorem sRaiseI_e {C : Addr} {f : Str} {T : TD} {D : EdD} {Γ : Gam} {S : Sto} : sRaiseI C f T D Γ S = T Γ S (fun S1 d => D.er S1 ⟨C, [(f, d)]⟩) D.er := rfl
end DL
namespace DL
open PySem PySem.Spec PyProof.Rows L2
theorem RpA.dropLast {K : PySem.W.Frag} {F : Hp} {al : List Addr} {vs : List V} {ds : List D} (r : RpA K F al vs ds) : RpA K F al vs.dropLast ds.dropLast := by
  rw [List.dropLast_eq_take, List.dropLast_eq_take, r.length]
  exact r.take _
theorem RpA.eraseIdx {K : PySem.W.Frag} {F : Hp} {al : List Addr} {vs : List V} {ds : List D} (r : RpA K F al vs ds) (k : Nat) : RpA K F al (vs.eraseIdx k) (ds.eraseIdx k) := by
  rw [List.eraseIdx_eq_take_drop_succ, List.eraseIdx_eq_take_drop_succ]
  exact (r.take _).append (r.drop _)
def mPop (d : D) (ds : List D) (S : Sto) (Φ : KD) : Prop := ∃ h xs y, d = .own h ∧ ds = [] ∧ S[h]? = some (.lst xs) ∧ xs[xs.length - 1]? = some y ∧ Φ (S.set h (.lst xs.dropLast)) y
def mPopAt (d : D) (ds : List D) (S : Sto) (Φ : KD) : Prop := ∃ h xs i k y, d = .own h ∧ ds = [.int i] ∧ S[h]? = some (.lst xs) ∧ -(2 ^ 63) ≤ i ∧ i < 2 ^ 63 ∧ seqIndex? i xs.length = some k ∧ xs[k]? = some y ∧ Φ (S.set h (.lst (xs.eraseIdx k))) y
theorem mtd_popAt {K : PySem.W.Frag} : MtD K rPopAt mPopAt := fun w S x vs d ds Φ Q g r1 r2 ⟨hh, xs, i, k, y, e, ed, e1, h1, h2, h3, e2, h⟩ q => by
  subst e ed
  obtain ⟨a, ys, rfl, ha, hH, ra⟩ := own_at g r1 e1
  have ev := ra_ints (ns := [i]) r2
  obtain ⟨u, hu, ru⟩ := ra.get e2
  refine ⟨a, ys, i, k, u, rfl, ev, hH, h1, h2, by rw [ra.length]; exact h3, hu, ?_⟩
  exact q u y (w.wr a (.lst (ys.eraseIdx k))) _ (Ext.wr _ (List.mem_of_getElem? ha)) (g.wr ha e1 (ra.eraseIdx k)) ru h
section
variable {X : Cx} {W : WX} {o e : Expr} {to te : TE} {To Te : TD}
def dM0 (f : D → List D → Sto → KD → Prop) (To : TD) : TD := fun Γ S Φ Ψ => To Γ S (fun S1 d => (∃ a, d = .str a) ∧ f d [] S1 Φ) Ψ
def mUpper (d : D) (ds : List D) (S : Sto) (Φ : KD) : Prop := ∃ a, d = .str a ∧ ds = [] ∧ a.length ≤ 5592405 ∧ Φ S (.str (Txt.upper a))
def dRev (T : TD) : TD := fun Γ S Φ Ψ => T Γ S (fun S1 d => ∃ ds, asQ S1 d = some ds ∧ Φ S1 (.lst ds.reverse)) Ψ
theorem je_rev {k : Nat} {p1 p2 p3 pos : Pos} (he : JE X W e te Te) : JE X W (.Subscript e (.Slice none none (some (.UnaryOp .USub (.Constant (.int 1) k p1) p2)) p3) pos) (tRevL X.K te) (dRev Te) :=
  ⟨pe_revL he.pe, fun Γ S Φ Ψ σ w g sl h hx Q q => he.sem Γ S _ Ψ σ w g sl h hx _ fun v d w1 S1 e1 g1 r1 ⟨ds, ed, h1⟩ => by
    obtain ⟨a, xs, rfl, hs, ra⟩ := asQ_at g1 r1 ed
    exact ⟨a, xs, rfl, hs, new_lst g1 (q.ext e1) ra.reverse h1⟩⟩
end
/-- a new list in a cell -/
def dAddO (x y : D) (S : Sto) (Φ : KD) : Prop := ∃ xs ys, asL S x = some xs ∧ asL S y = some ys ∧ xs.length + ys.length ≤ sizeLine ∧ Φ (S ++ [.lst (xs ++ ys)]) (.own S.length)
def plainD : D → D → Bool
  | .str _, .str _ | .int _, .int _ | .non, .non | .int _, .non | .non, .int _ | .str _, .non | .non, .str _ | .int _, .str _ | .str _, .int _ | .bl _, .bl _ => true
  | _, _ => false
def dEqF (x y : D) (S : Sto) (Φ : KD) : Prop := plainD x y = true ∧ Φ S (.bl (eqD x y))
def dNeF (x y : D) (S : Sto) (Φ : KD) : Prop := plainD x y = true ∧ Φ S (.bl (!eqD x y))
theorem opd_eqF {K : PySem.W.Frag} : OpD K rEq dEqF := fun w S x y u v Φ Q g r1 r2 ⟨hp, h⟩ q => by
  cases u <;> cases v <;> first | (exact absurd hp Bool.false_ne_true) | (cases r1; cases r2; exact ⟨by rfl, by
    first | (rw [dec_str]; exact q _ _ w S (Ext.refl w) g (.bl _) h) | (rw [dec_int]; exact q _ _ w S (Ext.refl w) g (.bl _) h) | (rw [dec_bl]; exact q _ _ w S (Ext.refl w) g (.bl _) h) | (simp only [decide_true, decide_false, reduceCtorEq]; exact q _ _ w S (Ext.refl w) g (.bl _) h)⟩)
theorem opd_neF {K : PySem.W.Frag} : OpD K rNe dNeF := fun w S x y u v Φ Q g r1 r2 ⟨hp, h⟩ q => by
  cases u <;> cases v <;> first | (exact absurd hp Bool.false_ne_true) | (cases r1; cases r2; exact ⟨by rfl, by
    first | (rw [dec_str]; exact q _ _ w S (Ext.refl w) g (.bl _) h) | (rw [dec_int]; exact q _ _ w S (Ext.refl w) g (.bl _) h) | (rw [dec_bl]; exact q _ _ w S (Ext.refl w) g (.bl _) h) | (simp only [decide_true, decide_false, reduceCtorEq]; exact q _ _ w S (Ext.refl w) g (.bl _) h)⟩)
section
variable {Γ : Gam} {S : Sto} {Φ : KD} {Ψ : KX}
theorem dM1_e {f : D → List D → Sto → KD → Prop} {To Te : TD} : dM1 f To Te Γ S Φ Ψ = To Γ S (fun S1 d => (∃ a, d = .str a) ∧ Te Γ S1 (fun S2 y => f d [y] S2 Φ) Ψ) Ψ := rfl
theorem dM0_e {f : D → List D → Sto → KD → Prop} {To : TD} : dM0 f To Γ S Φ Ψ = To Γ S (fun S1 d => (∃ a, d = .str a) ∧ f d [] S1 Φ) Ψ := rfl
theorem dRev_e {T : TD} : dRev T Γ S Φ Ψ = T Γ S (fun S1 d => ∃ ds, asQ S1 d = some ds ∧ Φ S1 (.lst ds.reverse)) Ψ := rfl
theorem mSplit_s {a b : Str} : mSplit (.str a) [.str b] S Φ = ((b.length == 0) = false ∧ a.length + 2 ≤ sizeLine ∧ Φ S (.lst ((Txt.split a b).map D.str))) := propext ⟨fun ⟨_, _, e1, e2, h⟩ => by cases e1; cases e2; exact h, fun h => ⟨a, b, rfl, rfl, h⟩⟩
theorem mUpper_s {a : Str} : mUpper (.str a) [] S Φ = (a.length ≤ 5592405 ∧ Φ S (.str (Txt.upper a))) := propext ⟨fun ⟨_, e1, _, h⟩ => by cases e1; exact h, fun h => ⟨a, rfl, rfl, h⟩⟩
theorem exZ {a : Str} {P : Str → Prop} : (∃ z, D.str a = .str z ∧ P z) ↔ P a := ⟨fun ⟨_, e, h⟩ => by cases e; exact h, fun h => ⟨a, rfl, h⟩⟩
theorem exStr {a : Str} : (∃ z, D.str a = .str z) = True := eq_true ⟨a, rfl⟩
theorem cStrI_i {i : Int} : cStrI [.int i] S Φ = (i.natAbs.log2 < 1920 ∧ Φ S (.str (toString i))) := propext ⟨fun ⟨_, e, h⟩ => by cases e; exact h, fun h => ⟨i, rfl, h⟩⟩
theorem cIntS_s {a : Str} : cIntS [.str a] S Φ = (∃ n, PySem.intText? a = some n ∧ a.length ≤ 640 ∧ Φ S (.int n)) := propext ⟨fun ⟨_, n, e, h⟩ => by cases e; exact ⟨n, h⟩, fun ⟨n, h⟩ => ⟨a, n, rfl, h⟩⟩
theorem iStrD_e {T : TD} {Ω : Sto → (Sto → Option (List D)) → Prop} : iStrD T Γ S Ω Ψ = T Γ S (fun S1 d => ∃ z, d = .str z ∧ Ω S1 (fun _ => some (signsD z))) Ψ := rfl
theorem dEqF_s {a b : Str} : dEqF (.str a) (.str b) S Φ = Φ S (.bl (a == b)) := propext ⟨fun h => h.2, fun h => ⟨rfl, h⟩⟩
theorem dNeF_s {a b : Str} : dNeF (.str a) (.str b) S Φ = Φ S (.bl (!(a == b))) := propext ⟨fun h => h.2, fun h => ⟨rfl, h⟩⟩
theorem dEqF_i {a b : Int} : dEqF (.int a) (.int b) S Φ = Φ S (.bl (a == b)) := propext ⟨fun h => h.2, fun h => ⟨rfl, h⟩⟩
theorem dNeF_i {a b : Int} : dNeF (.int a) (.int b) S Φ = Φ S (.bl (!(a == b))) := propext ⟨fun h => h.2, fun h => ⟨rfl, h⟩⟩
theorem dXFld_e {Cs : List Addr} {f : Str} {T : TD} : dXFld Cs f T Γ S Φ Ψ = T Γ S (fun S1 d => ∃ D fs y, d = .exc D fs ∧ D ∈ Cs ∧ fs.lookup f = some y ∧ Φ S1 y) Ψ := rfl
theorem mPop_e {h : Nat} : mPop (.own h) [] S Φ = (∃ xs y, S[h]? = some (.lst xs) ∧ xs[xs.length - 1]? = some y ∧ Φ (S.set h (.lst xs.dropLast)) y) := propext ⟨fun ⟨_, xs, y, e, _, h⟩ => by cases e; exact ⟨xs, y, h⟩, fun ⟨xs, y, h'⟩ => ⟨h, xs, y, rfl, rfl, h'⟩⟩
theorem dAddO_l {ds es : List D} : dAddO (.lst ds) (.lst es) S Φ = (ds.length + es.length ≤ sizeLine ∧ Φ (S ++ [.lst (ds ++ es)]) (.own S.length)) := propext ⟨fun ⟨_, _, e1, e2, h⟩ => by cases e1; cases e2; exact h, fun h => ⟨ds, es, rfl, rfl, h⟩⟩
theorem dAddO_o {h : Nat} {es : List D} : dAddO (.own h) (.lst es) S Φ = (∃ ds, S[h]? = some (.lst ds) ∧ ds.length + es.length ≤ sizeLine ∧ Φ (S ++ [.lst (ds ++ es)]) (.own S.length)) := propext ⟨fun ⟨ds, _, e1, e2, h⟩ => by cases e2; exact ⟨ds, asL_own e1, h⟩, fun ⟨ds, e, h'⟩ => ⟨ds, es, asL_at' e, rfl, h'⟩⟩
theorem dSign_s {neg : Bool} {c : Nat} {z : Str} : dSign neg (.str ⟨#[c]⟩) (.str z) S Φ = Φ S (.bl (if neg then !decide (c ∈ z.cps.toList) else decide (c ∈ z.cps.toList))) := propext ⟨fun ⟨_, _, e1, e2, h⟩ => by cases e1; cases e2; exact h, fun h => ⟨c, z, rfl, rfl, h⟩⟩
end
end DL
namespace DL
open PySem PySem.Spec PyProof.Rows L2
section
variable {Γ : Gam} {S : Sto} {Φ : KD} {Ψ : KX} {P : Gam → Sto → Prop}
theorem dv0 {d : D} : dVar 0 (some d :: Γ) S Φ Ψ = Φ S d := propext ⟨fun ⟨_, e, h⟩ => by cases e; exact h, fun h => ⟨d, rfl, h⟩⟩
theorem nm0 {o : Option D} {d : D} : nmG 0 d (o :: Γ) S P = P (some d :: Γ) S := rfl
theorem dv1 {a0 : Option D} {d : D} : dVar 1 (a0 :: some d :: Γ) S Φ Ψ = Φ S d := propext ⟨fun ⟨_, e, h⟩ => by cases e; exact h, fun h => ⟨d, rfl, h⟩⟩
theorem nm1 {a0 : Option D} {o : Option D} {d : D} : nmG 1 d (a0 :: o :: Γ) S P = P (a0 :: some d :: Γ) S := rfl
theorem dv2 {a0 a1 : Option D} {d : D} : dVar 2 (a0 :: a1 :: some d :: Γ) S Φ Ψ = Φ S d := propext ⟨fun ⟨_, e, h⟩ => by cases e; exact h, fun h => ⟨d, rfl, h⟩⟩
theorem nm2 {a0 a1 : Option D} {o : Option D} {d : D} : nmG 2 d (a0 :: a1 :: o :: Γ) S P = P (a0 :: a1 :: some d :: Γ) S := rfl
theorem dv3 {a0 a1 a2 : Option D} {d : D} : dVar 3 (a0 :: a1 :: a2 :: some d :: Γ) S Φ Ψ = Φ S d := propext ⟨fun ⟨_, e, h⟩ => by cases e; exact h, fun h => ⟨d, rfl, h⟩⟩
theorem nm3 {a0 a1 a2 : Option D} {o : Option D} {d : D} : nmG 3 d (a0 :: a1 :: a2 :: o :: Γ) S P = P (a0 :: a1 :: a2 :: some d :: Γ) S := rfl
theorem dv4 {a0 a1 a2 a3 : Option D} {d : D} : dVar 4 (a0 :: a1 :: a2 :: a3 :: some d :: Γ) S Φ Ψ = Φ S d := propext ⟨fun ⟨_, e, h⟩ => by cases e; exact h, fun h => ⟨d, rfl, h⟩⟩
theorem nm4 {a0 a1 a2 a3 : Option D} {o : Option D} {d : D} : nmG 4 d (a0 :: a1 :: a2 :: a3 :: o :: Γ) S P = P (a0 :: a1 :: a2 :: a3 :: some d :: Γ) S := rfl
theorem dv5 {a0 a1 a2 a3 a4 : Option D} {d : D} : dVar 5 (a0 :: a1 :: a2 :: a3 :: a4 :: some d :: Γ) S Φ Ψ = Φ S d := propext ⟨fun ⟨_, e, h⟩ => by cases e; exact h, fun h => ⟨d, rfl, h⟩⟩
theorem nm5 {a0 a1 a2 a3 a4 : Option D} {o : Option D} {d : D} : nmG 5 d (a0 :: a1 :: a2 :: a3 :: a4 :: o :: Γ) S P = P (a0 :: a1 :: a2 :: a3 :: a4 :: some d :: Γ) S := rfl
theorem dv6 {a0 a1 a2 a3 a4 a5 : Option D} {d : D} : dVar 6 (a0 :: a1 :: a2 :: a3 :: a4 :: a5 :: some d :: Γ) S Φ Ψ = Φ S d := propext ⟨fun ⟨_, e, h⟩ => by cases e; exact h, fun h => ⟨d, rfl, h⟩⟩
theorem nm6 {a0 a1 a2 a3 a4 a5 : Option D} {o : Option D} {d : D} : nmG 6 d (a0 :: a1 :: a2 :: a3 :: a4 :: a5 :: o :: Γ) S P = P (a0 :: a1 :: a2 :: a3 :: a4 :: a5 :: some d :: Γ) S := rfl
theorem dv7 {a0 a1 a2 a3 a4 a5 a6 : Option D} {d : D} : dVar 7 (a0 :: a1 :: a2 :: a3 :: a4 :: a5 :: a6 :: some d :: Γ) S Φ Ψ = Φ S d := propext ⟨fun ⟨_, e, h⟩ => by cases e; exact h, fun h => ⟨d, rfl, h⟩⟩
theorem nm7 {a0 a1 a2 a3 a4 a5 a6 : Option D} {o : Option D} {d : D} : nmG 7 d (a0 :: a1 :: a2 :: a3 :: a4 :: a5 :: a6 :: o :: Γ) S P = P (a0 :: a1 :: a2 :: a3 :: a4 :: a5 :: a6 :: some d :: Γ) S := rfl
theorem dv8 {a0 a1 a2 a3 a4 a5 a6 a7 : Option D} {d : D} : dVar 8 (a0 :: a1 :: a2 :: a3 :: a4 :: a5 :: a6 :: a7 :: some d :: Γ) S Φ Ψ = Φ S d := propext ⟨fun ⟨_, e, h⟩ => by cases e; exact h, fun h => ⟨d, rfl, h⟩⟩
theorem nm8 {a0 a1 a2 a3 a4 a5 a6 a7 : Option D} {o : Option D} {d : D} : nmG 8 d (a0 :: a1 :: a2 :: a3 :: a4 :: a5 :: a6 :: a7 :: o :: Γ) S P = P (a0 :: a1 :: a2 :: a3 :: a4 :: a5 :: a6 :: a7 :: some d :: Γ) S := rfl
theorem dv9 {a0 a1 a2 a3 a4 a5 a6 a7 a8 : Option D} {d : D} : dVar 9 (a0 :: a1 :: a2 :: a3 :: a4 :: a5 :: a6 :: a7 :: a8 :: some d :: Γ) S Φ Ψ = Φ S d := propext ⟨fun ⟨_, e, h⟩ => by cases e; exact h, fun h => ⟨d, rfl, h⟩⟩
theorem nm9 {a0 a1 a2 a3 a4 a5 a6 a7 a8 : Option D} {o : Option D} {d : D} : nmG 9 d (a0 :: a1 :: a2 :: a3 :: a4 :: a5 :: a6 :: a7 :: a8 :: o :: Γ) S P = P (a0 :: a1 :: a2 :: a3 :: a4 :: a5 :: a6 :: a7 :: a8 :: some d :: Γ) S := rfl
theorem dv10 {a0 a1 a2 a3 a4 a5 a6 a7 a8 a9 : Option D} {d : D} : dVar 10 (a0 :: a1 :: a2 :: a3 :: a4 :: a5 :: a6 :: a7 :: a8 :: a9 :: some d :: Γ) S Φ Ψ = Φ S d := propext ⟨fun ⟨_, e, h⟩ => by cases e; exact h, fun h => ⟨d, rfl, h⟩⟩
theorem nm10 {a0 a1 a2 a3 a4 a5 a6 a7 a8 a9 : Option D} {o : Option D} {d : D} : nmG 10 d (a0 :: a1 :: a2 :: a3 :: a4 :: a5 :: a6 :: a7 :: a8 :: a9 :: o :: Γ) S P = P (a0 :: a1 :: a2 :: a3 :: a4 :: a5 :: a6 :: a7 :: a8 :: a9 :: some d :: Γ) S := rfl
theorem dv11 {a0 a1 a2 a3 a4 a5 a6 a7 a8 a9 a10 : Option D} {d : D} : dVar 11 (a0 :: a1 :: a2 :: a3 :: a4 :: a5 :: a6 :: a7 :: a8 :: a9 :: a10 :: some d :: Γ) S Φ Ψ = Φ S d := propext ⟨fun ⟨_, e, h⟩ => by cases e; exact h, fun h => ⟨d, rfl, h⟩⟩
theorem nm11 {a0 a1 a2 a3 a4 a5 a6 a7 a8 a9 a10 : Option D} {o : Option D} {d : D} : nmG 11 d (a0 :: a1 :: a2 :: a3 :: a4 :: a5 :: a6 :: a7 :: a8 :: a9 :: a10 :: o :: Γ) S P = P (a0 :: a1 :: a2 :: a3 :: a4 :: a5 :: a6 :: a7 :: a8 :: a9 :: a10 :: some d :: Γ) S := rfl
theorem dv12 {a0 a1 a2 a3 a4 a5 a6 a7 a8 a9 a10 a11 : Option D} {d : D} : dVar 12 (a0 :: a1 :: a2 :: a3 :: a4 :: a5 :: a6 :: a7 :: a8 :: a9 :: a10 :: a11 :: some d :: Γ) S Φ Ψ = Φ S d := propext ⟨fun ⟨_, e, h⟩ => by cases e; exact h, fun h => ⟨d, rfl, h⟩⟩
theorem nm12 {a0 a1 a2 a3 a4 a5 a6 a7 a8 a9 a10 a11 : Option D} {o : Option D} {d : D} : nmG 12 d (a0 :: a1 :: a2 :: a3 :: a4 :: a5 :: a6 :: a7 :: a8 :: a9 :: a10 :: a11 :: o :: Γ) S P = P (a0 :: a1 :: a2 :: a3 :: a4 :: a5 :: a6 :: a7 :: a8 :: a9 :: a10 :: a11 :: some d :: Γ) S := rfl
theorem dv13 {a0 a1 a2 a3 a4 a5 a6 a7 a8 a9 a10 a11 a12 : Option D} {d : D} : dVar 13 (a0 :: a1 :: a2 :: a3 :: a4 :: a5 :: a6 :: a7 :: a8 :: a9 :: a10 :: a11 :: a12 :: some d :: Γ) S Φ Ψ = Φ S d := propext ⟨fun ⟨_, e, h⟩ => by cases e; exact h, fun h => ⟨d, rfl, h⟩⟩
theorem nm13 {a0 a1 a2 a3 a4 a5 a6 a7 a8 a9 a10 a11 a12 : Option D} {o : Option D} {d : D} : nmG 13 d (a0 :: a1 :: a2 :: a3 :: a4 :: a5 :: a6 :: a7 :: a8 :: a9 :: a10 :: a11 :: a12 :: o :: Γ) S P = P (a0 :: a1 :: a2 :: a3 :: a4 :: a5 :: a6 :: a7 :: a8 :: a9 :: a10 :: a11 :: a12 :: some d :: Γ) S := rfl
theorem dv14 {a0 a1 a2 a3 a4 a5 a6 a7 a8 a9 a10 a11 a12 a13 : Option D} {d : D} : dVar 14 (a0 :: a1 :: a2 :: a3 :: a4 :: a5 :: a6 :: a7 :: a8 :: a9 :: a10 :: a11 :: a12 :: a13 :: some d :: Γ) S Φ Ψ = Φ S d := propext ⟨fun ⟨_, e, h⟩ => by cases e; exact h, fun h => ⟨d, rfl, h⟩⟩
theorem nm14 {a0 a1 a2 a3 a4 a5 a6 a7 a8 a9 a10 a11 a12 a13 : Option D} {o : Option D} {d : D} : nmG 14 d (a0 :: a1 :: a2 :: a3 :: a4 :: a5 :: a6 :: a7 :: a8 :: a9 :: a10 :: a11 :: a12 :: a13 :: o :: Γ) S P = P (a0 :: a1 :: a2 :: a3 :: a4 :: a5 :: a6 :: a7 :: a8 :: a9 :: a10 :: a11 :: a12 :: a13 :: some d :: Γ) S := rfl
theorem dv15 {a0 a1 a2 a3 a4 a5 a6 a7 a8 a9 a10 a11 a12 a13 a14 : Option D} {d : D} : dVar 15 (a0 :: a1 :: a2 :: a3 :: a4 :: a5 :: a6 :: a7 :: a8 :: a9 :: a10 :: a11 :: a12 :: a13 :: a14 :: some d :: Γ) S Φ Ψ = Φ S d := propext ⟨fun ⟨_, e, h⟩ => by cases e; exact h, fun h => ⟨d, rfl, h⟩⟩
theorem nm15 {a0 a1 a2 a3 a4 a5 a6 a7 a8 a9 a10 a11 a12 a13 a14 : Option D} {o : Option D} {d : D} : nmG 15 d (a0 :: a1 :: a2 :: a3 :: a4 :: a5 :: a6 :: a7 :: a8 :: a9 :: a10 :: a11 :: a12 :: a13 :: a14 :: o :: Γ) S P = P (a0 :: a1 :: a2 :: a3 :: a4 :: a5 :: a6 :: a7 :: a8 :: a9 :: a10 :: a11 :: a12 :: a13 :: a14 :: some d :: Γ) S := rfl
theorem dv16 {a0 a1 a2 a3 a4 a5 a6 a7 a8 a9 a10 a11 a12 a13 a14 a15 : Option D} {d : D} : dVar 16 (a0 :: a1 :: a2 :: a3 :: a4 :: a5 :: a6 :: a7 :: a8 :: a9 :: a10 :: a11 :: a12 :: a13 :: a14 :: a15 :: some d :: Γ) S Φ Ψ = Φ S d := propext ⟨fun ⟨_, e, h⟩ => by cases e; exact h, fun h => ⟨d, rfl, h⟩⟩
theorem nm16 {a0 a1 a2 a3 a4 a5 a6 a7 a8 a9 a10 a11 a12 a13 a14 a15 : Option D} {o : Option D} {d : D} : nmG 16 d (a0 :: a1 :: a2 :: a3 :: a4 :: a5 :: a6 :: a7 :: a8 :: a9 :: a10 :: a11 :: a12 :: a13 :: a14 :: a15 :: o :: Γ) S P = P (a0 :: a1 :: a2 :: a3 :: a4 :: a5 :: a6 :: a7 :: a8 :: a9 :: a10 :: a11 :: a12 :: a13 :: a14 :: a15 :: some d :: Γ) S := rfl
theorem dv17 {a0 a1 a2 a3 a4 a5 a6 a7 a8 a9 a10 a11 a12 a13 a14 a15 a16 : Option D} {d : D} : dVar 17 (a0 :: a1 :: a2 :: a3 :: a4 :: a5 :: a6 :: a7 :: a8 :: a9 :: a10 :: a11 :: a12 :: a13 :: a14 :: a15 :: a16 :: some d :: Γ) S Φ Ψ = Φ S d := propext ⟨fun ⟨_, e, h⟩ => by cases e; exact h, fun h => ⟨d, rfl, h⟩⟩
theorem nm17 {a0 a1 a2 a3 a4 a5 a6 a7 a8 a9 a10 a11 a12 a13 a14 a15 a16 : Option D} {o : Option D} {d : D} : nmG 17 d (a0 :: a1 :: a2 :: a3 :: a4 :: a5 :: a6 :: a7 :: a8 :: a9 :: a10 :: a11 :: a12 :: a13 :: a14 :: a15 :: a16 :: o :: Γ) S P = P (a0 :: a1 :: a2 :: a3 :: a4 :: a5 :: a6 :: a7 :: a8 :: a9 :: a10 :: a11 :: a12 :: a13 :: a14 :: a15 :: a16 :: some d :: Γ) S := rfl
theorem dv18 {a0 a1 a2 a3 a4 a5 a6 a7 a8 a9 a10 a11 a12 a13 a14 a15 a16 a17 : Option D} {d : D} : dVar 18 (a0 :: a1 :: a2 :: a3 :: a4 :: a5 :: a6 :: a7 :: a8 :: a9 :: a10 :: a11 :: a12 :: a13 :: a14 :: a15 :: a16 :: a17 :: some d :: Γ) S Φ Ψ = Φ S d := propext ⟨fun ⟨_, e, h⟩ => by cases e; exact h, fun h => ⟨d, rfl, h⟩⟩
theorem nm18 {a0 a1 a2 a3 a4 a5 a6 a7 a8 a9 a10 a11 a12 a13 a14 a15 a16 a17 : Option D} {o : Option D} {d : D} : nmG 18 d (a0 :: a1 :: a2 :: a3 :: a4 :: a5 :: a6 :: a7 :: a8 :: a9 :: a10 :: a11 :: a12 :: a13 :: a14 :: a15 :: a16 :: a17 :: o :: Γ) S P = P (a0 :: a1 :: a2 :: a3 :: a4 :: a5 :: a6 :: a7 :: a8 :: a9 :: a10 :: a11 :: a12 :: a13 :: a14 :: a15 :: a16 :: a17 :: some d :: Γ) S := rfl
theorem dv19 {a0 a1 a2 a3 a4 a5 a6 a7 a8 a9 a10 a11 a12 a13 a14 a15 a16 a17 a18 : Option D} {d : D} : dVar 19 (a0 :: a1 :: a2 :: a3 :: a4 :: a5 :: a6 :: a7 :: a8 :: a9 :: a10 :: a11 :: a12 :: a13 :: a14 :: a15 :: a16 :: a17 :: a18 :: some d :: Γ) S Φ Ψ = Φ S d := propext ⟨fun ⟨_, e, h⟩ => by cases e; exact h, fun h => ⟨d, rfl, h⟩⟩
theorem nm19 {a0 a1 a2 a3 a4 a5 a6 a7 a8 a9 a10 a11 a12 a13 a14 a15 a16 a17 a18 : Option D} {o : Option D} {d : D} : nmG 19 d (a0 :: a1 :: a2 :: a3 :: a4 :: a5 :: a6 :: a7 :: a8 :: a9 :: a10 :: a11 :: a12 :: a13 :: a14 :: a15 :: a16 :: a17 :: a18 :: o :: Γ) S P = P (a0 :: a1 :: a2 :: a3 :: a4 :: a5 :: a6 :: a7 :: a8 :: a9 :: a10 :: a11 :: a12 :: a13 :: a14 :: a15 :: a16 :: a17 :: a18 :: some d :: Γ) S := rfl
theorem dv20 {a0 a1 a2 a3 a4 a5 a6 a7 a8 a9 a10 a11 a12 a13 a14 a15 a16 a17 a18 a19 : Option D} {d : D} : dVar 20 (a0 :: a1 :: a2 :: a3 :: a4 :: a5 :: a6 :: a7 :: a8 :: a9 :: a10 :: a11 :: a12 :: a13 :: a14 :: a15 :: a16 :: a17 :: a18 :: a19 :: some d :: Γ) S Φ Ψ = Φ S d := propext ⟨fun ⟨_, e, h⟩ => by cases e; exact h, fun h => ⟨d, rfl, h⟩⟩
theorem nm20 {a0 a1 a2 a3 a4 a5 a6 a7 a8 a9 a10 a11 a12 a13 a14 a15 a16 a17 a18 a19 : Option D} {o : Option D} {d : D} : nmG 20 d (a0 :: a1 :: a2 :: a3 :: a4 :: a5 :: a6 :: a7 :: a8 :: a9 :: a10 :: a11 :: a12 :: a13 :: a14 :: a15 :: a16 :: a17 :: a18 :: a19 :: o :: Γ) S P = P (a0 :: a1 :: a2 :: a3 :: a4 :: a5 :: a6 :: a7 :: a8 :: a9 :: a10 :: a11 :: a12 :: a13 :: a14 :: a15 :: a16 :: a17 :: a18 :: a19 :: some d :: Γ) S := rfl
theorem dv21 {a0 a1 a2 a3 a4 a5 a6 a7 a8 a9 a10 a11 a12 a13 a14 a15 a16 a17 a18 a19 a20 : Option D} {d : D} : dVar 21 (a0 :: a1 :: a2 :: a3 :: a4 :: a5 :: a6 :: a7 :: a8 :: a9 :: a10 :: a11 :: a12 :: a13 :: a14 :: a15 :: a16 :: a17 :: a18 :: a19 :: a20 :: some d :: Γ) S Φ Ψ = Φ S d := propext ⟨fun ⟨_, e, h⟩ => by cases e; exact h, fun h => ⟨d, rfl, h⟩⟩
theorem nm21 {a0 a1 a2 a3 a4 a5 a6 a7 a8 a9 a10 a11 a12 a13 a14 a15 a16 a17 a18 a19 a20 : Option D} {o : Option D} {d : D} : nmG 21 d (a0 :: a1 :: a2 :: a3 :: a4 :: a5 :: a6 :: a7 :: a8 :: a9 :: a10 :: a11 :: a12 :: a13 :: a14 :: a15 :: a16 :: a17 :: a18 :: a19 :: a20 :: o :: Γ) S P = P (a0 :: a1 :: a2 :: a3 :: a4 :: a5 :: a6 :: a7 :: a8 :: a9 :: a10 :: a11 :: a12 :: a13 :: a14 :: a15 :: a16 :: a17 :: a18 :: a19 :: a20 :: some d :: Γ) S := rfl
theorem dv22 {a0 a1 a2 a3 a4 a5 a6 a7 a8 a9 a10 a11 a12 a13 a14 a15 a16 a17 a18 a19 a20 a21 : Option D} {d : D} : dVar 22 (a0 :: a1 :: a2 :: a3 :: a4 :: a5 :: a6 :: a7 :: a8 :: a9 :: a10 :: a11 :: a12 :: a13 :: a14 :: a15 :: a16 :: a17 :: a18 :: a19 :: a20 :: a21 :: some d :: Γ) S Φ Ψ = Φ S d := propext ⟨fun ⟨_, e, h⟩ => by cases e; exact h, fun h => ⟨d, rfl, h⟩⟩
theorem nm22 {a0 a1 a2 a3 a4 a5 a6 a7 a8 a9 a10 a11 a12 a13 a14 a15 a16 a17 a18 a19 a20 a21 : Option D} {o : Option D} {d : D} : nmG 22 d (a0 :: a1 :: a2 :: a3 :: a4 :: a5 :: a6 :: a7 :: a8 :: a9 :: a10 :: a11 :: a12 :: a13 :: a14 :: a15 :: a16 :: a17 :: a18 :: a19 :: a20 :: a21 :: o :: Γ) S P = P (a0 :: a1 :: a2 :: a3 :: a4 :: a5 :: a6 :: a7 :: a8 :: a9 :: a10 :: a11 :: a12 :: a13 :: a14 :: a15 :: a16 :: a17 :: a18 :: a19 :: a20 :: a21 :: some d :: Γ) S := rfl
theorem dv23 {a0 a1 a2 a3 a4 a5 a6 a7 a8 a9 a10 a11 a12 a13 a14 a15 a16 a17 a18 a19 a20 a21 a22 : Option D} {d : D} : dVar 23 (a0 :: a1 :: a2 :: a3 :: a4 :: a5 :: a6 :: a7 :: a8 :: a9 :: a10 :: a11 :: a12 :: a13 :: a14 :: a15 :: a16 :: a17 :: a18 :: a19 :: a20 :: a21 :: a22 :: some d :: Γ) S Φ Ψ = Φ S d := propext ⟨fun ⟨_, e, h⟩ => by cases e; exact h, fun h => ⟨d, rfl, h⟩⟩
theorem nm23 {a0 a1 a2 a3 a4 a5 a6 a7 a8 a9 a10 a11 a12 a13 a14 a15 a16 a17 a18 a19 a20 a21 a22 : Option D} {o : Option D} {d : D} : nmG 23 d (a0 :: a1 :: a2 :: a3 :: a4 :: a5 :: a6 :: a7 :: a8 :: a9 :: a10 :: a11 :: a12 :: a13 :: a14 :: a15 :: a16 :: a17 :: a18 :: a19 :: a20 :: a21 :: a22 :: o :: Γ) S P = P (a0 :: a1 :: a2 :: a3 :: a4 :: a5 :: a6 :: a7 :: a8 :: a9 :: a10 :: a11 :: a12 :: a13 :: a14 :: a15 :: a16 :: a17 :: a18 :: a19 :: a20 :: a21 :: a22 :: some d :: Γ) S := rfl
theorem dv24 {a0 a1 a2 a3 a4 a5 a6 a7 a8 a9 a10 a11 a12 a13 a14 a15 a16 a17 a18 a19 a20 a21 a22 a23 : Option D} {d : D} : dVar 24 (a0 :: a1 :: a2 :: a3 :: a4 :: a5 :: a6 :: a7 :: a8 :: a9 :: a10 :: a11 :: a12 :: a13 :: a14 :: a15 :: a16 :: a17 :: a18 :: a19 :: a20 :: a21 :: a22 :: a23 :: some d :: Γ) S Φ Ψ = Φ S d := propext ⟨fun ⟨_, e, h⟩ => by cases e; exact h, fun h => ⟨d, rfl, h⟩⟩
theorem nm24 {a0 a1 a2 a3 a4 a5 a6 a7 a8 a9 a10 a11 a12 a13 a14 a15 a16 a17 a18 a19 a20 a21 a22 a23 : Option D} {o : Option D} {d : D} : nmG 24 d (a0 :: a1 :: a2 :: a3 :: a4 :: a5 :: a6 :: a7 :: a8 :: a9 :: a10 :: a11 :: a12 :: a13 :: a14 :: a15 :: a16 :: a17 :: a18 :: a19 :: a20 :: a21 :: a22 :: a23 :: o :: Γ) S P = P (a0 :: a1 :: a2 :: a3 :: a4 :: a5 :: a6 :: a7 :: a8 :: a9 :: a10 :: a11 :: a12 :: a13 :: a14 :: a15 :: a16 :: a17 :: a18 :: a19 :: a20 :: a21 :: a22 :: a23 :: some d :: Γ) S := rfl
theorem dv25 {a0 a1 a2 a3 a4 a5 a6 a7 a8 a9 a10 a11 a12 a13 a14 a15 a16 a17 a18 a19 a20 a21 a22 a23 a24 : Option D} {d : D} : dVar 25 (a0 :: a1 :: a2 :: a3 :: a4 :: a5 :: a6 :: a7 :: a8 :: a9 :: a10 :: a11 :: a12 :: a13 :: a14 :: a15 :: a16 :: a17 :: a18 :: a19 :: a20 :: a21 :: a22 :: a23 :: a24 :: some d :: Γ) S Φ Ψ = Φ S d := propext ⟨fun ⟨_, e, h⟩ => by cases e; exact h, fun h => ⟨d, rfl, h⟩⟩
theorem nm25 {a0 a1 a2 a3 a4 a5 a6 a7 a8 a9 a10 a11 a12 a13 a14 a15 a16 a17 a18 a19 a20 a21 a22 a23 a24 : Option D} {o : Option D} {d : D} : nmG 25 d (a0 :: a1 :: a2 :: a3 :: a4 :: a5 :: a6 :: a7 :: a8 :: a9 :: a10 :: a11 :: a12 :: a13 :: a14 :: a15 :: a16 :: a17 :: a18 :: a19 :: a20 :: a21 :: a22 :: a23 :: a24 :: o :: Γ) S P = P (a0 :: a1 :: a2 :: a3 :: a4 :: a5 :: a6 :: a7 :: a8 :: a9 :: a10 :: a11 :: a12 :: a13 :: a14 :: a15 :: a16 :: a17 :: a18 :: a19 :: a20 :: a21 :: a22 :: a23 :: a24 :: some d :: Γ) S := rfl
theorem dv26 {a0 a1 a2 a3 a4 a5 a6 a7 a8 a9 a10 a11 a12 a13 a14 a15 a16 a17 a18 a19 a20 a21 a22 a23 a24 a25 : Option D} {d : D} : dVar 26 (a0 :: a1 :: a2 :: a3 :: a4 :: a5 :: a6 :: a7 :: a8 :: a9 :: a10 :: a11 :: a12 :: a13 :: a14 :: a15 :: a16 :: a17 :: a18 :: a19 :: a20 :: a21 :: a22 :: a23 :: a24 :: a25 :: some d :: Γ) S Φ Ψ = Φ S d := propext ⟨fun ⟨_, e, h⟩ => by cases e; exact h, fun h => ⟨d, rfl, h⟩⟩
theorem nm26 {a0 a1 a2 a3 a4 a5 a6 a7 a8 a9 a10 a11 a12 a13 a14 a15 a16 a17 a18 a19 a20 a21 a22 a23 a24 a25 : Option D} {o : Option D} {d : D} : nmG 26 d (a0 :: a1 :: a2 :: a3 :: a4 :: a5 :: a6 :: a7 :: a8 :: a9 :: a10 :: a11 :: a12 :: a13 :: a14 :: a15 :: a16 :: a17 :: a18 :: a19 :: a20 :: a21 :: a22 :: a23 :: a24 :: a25 :: o :: Γ) S P = P (a0 :: a1 :: a2 :: a3 :: a4 :: a5 :: a6 :: a7 :: a8 :: a9 :: a10 :: a11 :: a12 :: a13 :: a14 :: a15 :: a16 :: a17 :: a18 :: a19 :: a20 :: a21 :: a22 :: a23 :: a24 :: a25 :: some d :: Γ) S := rfl
theorem dv27 {a0 a1 a2 a3 a4 a5 a6 a7 a8 a9 a10 a11 a12 a13 a14 a15 a16 a17 a18 a19 a20 a21 a22 a23 a24 a25 a26 : Option D} {d : D} : dVar 27 (a0 :: a1 :: a2 :: a3 :: a4 :: a5 :: a6 :: a7 :: a8 :: a9 :: a10 :: a11 :: a12 :: a13 :: a14 :: a15 :: a16 :: a17 :: a18 :: a19 :: a20 :: a21 :: a22 :: a23 :: a24 :: a25 :: a26 :: some d :: Γ) S Φ Ψ = Φ S d := propext ⟨fun ⟨_, e, h⟩ => by cases e; exact h, fun h => ⟨d, rfl, h⟩⟩
theorem nm27 {a0 a1 a2 a3 a4 a5 a6 a7 a8 a9 a10 a11 a12 a13 a14 a15 a16 a17 a18 a19 a20 a21 a22 a23 a24 a25 a26 : Option D} {o : Option D} {d : D} : nmG 27 d (a0 :: a1 :: a2 :: a3 :: a4 :: a5 :: a6 :: a7 :: a8 :: a9 :: a10 :: a11 :: a12 :: a13 :: a14 :: a15 :: a16 :: a17 :: a18 :: a19 :: a20 :: a21 :: a22 :: a23 :: a24 :: a25 :: a26 :: o :: Γ) S P = P (a0 :: a1 :: a2 :: a3 :: a4 :: a5 :: a6 :: a7 :: a8 :: a9 :: a10 :: a11 :: a12 :: a13 :: a14 :: a15 :: a16 :: a17 :: a18 :: a19 :: a20 :: a21 :: a22 :: a23 :: a24 :: a25 :: a26 :: some d :: Γ) S := rfl
theorem dv28 {a0 a1 a2 a3 a4 a5 a6 a7 a8 a9 a10 a11 a12 a13 a14 a15 a16 a17 a18 a19 a20 a21 a22 a23 a24 a25 a26 a27 : Option D} {d : D} : dVar 28 (a0 :: a1 :: a2 :: a3 :: a4 :: a5 :: a6 :: a7 :: a8 :: a9 :: a10 :: a11 :: a12 :: a13 :: a14 :: a15 :: a16 :: a17 :: a18 :: a19 :: a20 :: a21 :: a22 :: a23 :: a24 :: a25 :: a26 :: a27 :: some d :: Γ) S Φ Ψ = Φ S d := propext ⟨fun ⟨_, e, h⟩ => by cases e; exact h, fun h => ⟨d, rfl, h⟩⟩
theorem nm28 {a0 a1 a2 a3 a4 a5 a6 a7 a8 a9 a10 a11 a12 a13 a14 a15 a16 a17 a18 a19 a20 a21 a22 a23 a24 a25 a26 a27 : Option D} {o : Option D} {d : D} : nmG 28 d (a0 :: a1 :: a2 :: a3 :: a4 :: a5 :: a6 :: a7 :: a8 :: a9 :: a10 :: a11 :: a12 :: a13 :: a14 :: a15 :: a16 :: a17 :: a18 :: a19 :: a20 :: a21 :: a22 :: a23 :: a24 :: a25 :: a26 :: a27 :: o :: Γ) S P = P (a0 :: a1 :: a2 :: a3 :: a4 :: a5 :: a6 :: a7 :: a8 :: a9 :: a10 :: a11 :: a12 :: a13 :: a14 :: a15 :: a16 :: a17 :: a18 :: a19 :: a20 :: a21 :: a22 :: a23 :: a24 :: a25 :: a26 :: a27 :: some d :: Γ) S := rfl
theorem dv29 {a0 a1 a2 a3 a4 a5 a6 a7 a8 a9 a10 a11 a12 a13 a14 a15 a16 a17 a18 a19 a20 a21 a22 a23 a24 a25 a26 a27 a28 : Option D} {d : D} : dVar 29 (a0 :: a1 :: a2 :: a3 :: a4 :: a5 :: a6 :: a7 :: a8 :: a9 :: a10 :: a11 :: a12 :: a13 :: a14 :: a15 :: a16 :: a17 :: a18 :: a19 :: a20 :: a21 :: a22 :: a23 :: a24 :: a25 :: a26 :: a27 :: a28 :: some d :: Γ) S Φ Ψ = Φ S d := propext ⟨fun ⟨_, e, h⟩ => by cases e; exact h, fun h => ⟨d, rfl, h⟩⟩
theorem nm29 {a0 a1 a2 a3 a4 a5 a6 a7 a8 a9 a10 a11 a12 a13 a14 a15 a16 a17 a18 a19 a20 a21 a22 a23 a24 a25 a26 a27 a28 : Option D} {o : Option D} {d : D} : nmG 29 d (a0 :: a1 :: a2 :: a3 :: a4 :: a5 :: a6 :: a7 :: a8 :: a9 :: a10 :: a11 :: a12 :: a13 :: a14 :: a15 :: a16 :: a17 :: a18 :: a19 :: a20 :: a21 :: a22 :: a23 :: a24 :: a25 :: a26 :: a27 :: a28 :: o :: Γ) S P = P (a0 :: a1 :: a2 :: a3 :: a4 :: a5 :: a6 :: a7 :: a8 :: a9 :: a10 :: a11 :: a12 :: a13 :: a14 :: a15 :: a16 :: a17 :: a18 :: a19 :: a20 :: a21 :: a22 :: a23 :: a24 :: a25 :: a26 :: a27 :: a28 :: some d :: Γ) S := rfl
theorem dv30 {a0 a1 a2 a3 a4 a5 a6 a7 a8 a9 a10 a11 a12 a13 a14 a15 a16 a17 a18 a19 a20 a21 a22 a23 a24 a25 a26 a27 a28 a29 : Option D} {d : D} : dVar 30 (a0 :: a1 :: a2 :: a3 :: a4 :: a5 :: a6 :: a7 :: a8 :: a9 :: a10 :: a11 :: a12 :: a13 :: a14 :: a15 :: a16 :: a17 :: a18 :: a19 :: a20 :: a21 :: a22 :: a23 :: a24 :: a25 :: a26 :: a27 :: a28 :: a29 :: some d :: Γ) S Φ Ψ = Φ S d := propext ⟨fun ⟨_, e, h⟩ => by cases e; exact h, fun h => ⟨d, rfl, h⟩⟩
theorem nm30 {a0 a1 a2 a3 a4 a5 a6 a7 a8 a9 a10 a11 a12 a13 a14 a15 a16 a17 a18 a19 a20 a21 a22 a23 a24 a25 a26 a27 a28 a29 : Option D} {o : Option D} {d : D} : nmG 30 d (a0 :: a1 :: a2 :: a3 :: a4 :: a5 :: a6 :: a7 :: a8 :: a9 :: a10 :: a11 :: a12 :: a13 :: a14 :: a15 :: a16 :: a17 :: a18 :: a19 :: a20 :: a21 :: a22 :: a23 :: a24 :: a25 :: a26 :: a27 :: a28 :: a29 :: o :: Γ) S P = P (a0 :: a1 :: a2 :: a3 :: a4 :: a5 :: a6 :: a7 :: a8 :: a9 :: a10 :: a11 :: a12 :: a13 :: a14 :: a15 :: a16 :: a17 :: a18 :: a19 :: a20 :: a21 :: a22 :: a23 :: a24 :: a25 :: a26 :: a27 :: a28 :: a29 :: some d :: Γ) S := rfl
theorem dv31 {a0 a1 a2 a3 a4 a5 a6 a7 a8 a9 a10 a11 a12 a13 a14 a15 a16 a17 a18 a19 a20 a21 a22 a23 a24 a25 a26 a27 a28 a29 a30 : Option D} {d : D} : dVar 31 (a0 :: a1 :: a2 :: a3 :: a4 :: a5 :: a6 :: a7 :: a8 :: a9 :: a10 :: a11 :: a12 :: a13 :: a14 :: a15 :: a16 :: a17 :: a18 :: a19 :: a20 :: a21 :: a22 :: a23 :: a24 :: a25 :: a26 :: a27 :: a28 :: a29 :: a30 :: some d :: Γ) S Φ Ψ = Φ S d := propext ⟨fun ⟨_, e, h⟩ => by cases e; exact h, fun h => ⟨d, rfl, h⟩⟩
theorem nm31 {a0 a1 a2 a3 a4 a5 a6 a7 a8 a9 a10 a11 a12 a13 a14 a15 a16 a17 a18 a19 a20 a21 a22 a23 a24 a25 a26 a27 a28 a29 a30 : Option D} {o : Option D} {d : D} : nmG 31 d (a0 :: a1 :: a2 :: a3 :: a4 :: a5 :: a6 :: a7 :: a8 :: a9 :: a10 :: a11 :: a12 :: a13 :: a14 :: a15 :: a16 :: a17 :: a18 :: a19 :: a20 :: a21 :: a22 :: a23 :: a24 :: a25 :: a26 :: a27 :: a28 :: a29 :: a30 :: o :: Γ) S P = P (a0 :: a1 :: a2 :: a3 :: a4 :: a5 :: a6 :: a7 :: a8 :: a9 :: a10 :: a11 :: a12 :: a13 :: a14 :: a15 :: a16 :: a17 :: a18 :: a19 :: a20 :: a21 :: a22 :: a23 :: a24 :: a25 :: a26 :: a27 :: a28 :: a29 :: a30 :: some d :: Γ) S := rfl
theorem dv32 {a0 a1 a2 a3 a4 a5 a6 a7 a8 a9 a10 a11 a12 a13 a14 a15 a16 a17 a18 a19 a20 a21 a22 a23 a24 a25 a26 a27 a28 a29 a30 a31 : Option D} {d : D} : dVar 32 (a0 :: a1 :: a2 :: a3 :: a4 :: a5 :: a6 :: a7 :: a8 :: a9 :: a10 :: a11 :: a12 :: a13 :: a14 :: a15 :: a16 :: a17 :: a18 :: a19 :: a20 :: a21 :: a22 :: a23 :: a24 :: a25 :: a26 :: a27 :: a28 :: a29 :: a30 :: a31 :: some d :: Γ) S Φ Ψ = Φ S d := propext ⟨fun ⟨_, e, h⟩ => by cases e; exact h, fun h => ⟨d, rfl, h⟩⟩
theorem nm32 {a0 a1 a2 a3 a4 a5 a6 a7 a8 a9 a10 a11 a12 a13 a14 a15 a16 a17 a18 a19 a20 a21 a22 a23 a24 a25 a26 a27 a28 a29 a30 a31 : Option D} {o : Option D} {d : D} : nmG 32 d (a0 :: a1 :: a2 :: a3 :: a4 :: a5 :: a6 :: a7 :: a8 :: a9 :: a10 :: a11 :: a12 :: a13 :: a14 :: a15 :: a16 :: a17 :: a18 :: a19 :: a20 :: a21 :: a22 :: a23 :: a24 :: a25 :: a26 :: a27 :: a28 :: a29 :: a30 :: a31 :: o :: Γ) S P = P (a0 :: a1 :: a2 :: a3 :: a4 :: a5 :: a6 :: a7 :: a8 :: a9 :: a10 :: a11 :: a12 :: a13 :: a14 :: a15 :: a16 :: a17 :: a18 :: a19 :: a20 :: a21 :: a22 :: a23 :: a24 :: a25 :: a26 :: a27 :: a28 :: a29 :: a30 :: a31 :: some d :: Γ) S := rfl
theorem dv33 {a0 a1 a2 a3 a4 a5 a6 a7 a8 a9 a10 a11 a12 a13 a14 a15 a16 a17 a18 a19 a20 a21 a22 a23 a24 a25 a26 a27 a28 a29 a30 a31 a32 : Option D} {d : D} : dVar 33 (a0 :: a1 :: a2 :: a3 :: a4 :: a5 :: a6 :: a7 :: a8 :: a9 :: a10 :: a11 :: a12 :: a13 :: a14 :: a15 :: a16 :: a17 :: a18 :: a19 :: a20 :: a21 :: a22 :: a23 :: a24 :: a25 :: a26 :: a27 :: a28 :: a29 :: a30 :: a31 :: a32 :: some d :: Γ) S Φ Ψ = Φ S d := propext ⟨fun ⟨_, e, h⟩ => by cases e; exact h, fun h => ⟨d, rfl, h⟩⟩
theorem nm33 {a0 a1 a2 a3 a4 a5 a6 a7 a8 a9 a10 a11 a12 a13 a14 a15 a16 a17 a18 a19 a20 a21 a22 a23 a24 a25 a26 a27 a28 a29 a30 a31 a32 : Option D} {o : Option D} {d : D} : nmG 33 d (a0 :: a1 :: a2 :: a3 :: a4 :: a5 :: a6 :: a7 :: a8 :: a9 :: a10 :: a11 :: a12 :: a13 :: a14 :: a15 :: a16 :: a17 :: a18 :: a19 :: a20 :: a21 :: a22 :: a23 :: a24 :: a25 :: a26 :: a27 :: a28 :: a29 :: a30 :: a31 :: a32 :: o :: Γ) S P = P (a0 :: a1 :: a2 :: a3 :: a4 :: a5 :: a6 :: a7 :: a8 :: a9 :: a10 :: a11 :: a12 :: a13 :: a14 :: a15 :: a16 :: a17 :: a18 :: a19 :: a20 :: a21 :: a22 :: a23 :: a24 :: a25 :: a26 :: a27 :: a28 :: a29 :: a30 :: a31 :: a32 :: some d :: Γ) S := rfl
theorem dv34 {a0 a1 a2 a3 a4 a5 a6 a7 a8 a9 a10 a11 a12 a13 a14 a15 a16 a17 a18 a19 a20 a21 a22 a23 a24 a25 a26 a27 a28 a29 a30 a31 a32 a33 : Option D} {d : D} : dVar 34 (a0 :: a1 :: a2 :: a3 :: a4 :: a5 :: a6 :: a7 :: a8 :: a9 :: a10 :: a11 :: a12 :: a13 :: a14 :: a15 :: a16 :: a17 :: a18 :: a19 :: a20 :: a21 :: a22 :: a23 :: a24 :: a25 :: a26 :: a27 :: a28 :: a29 :: a30 :: a31 :: a32 :: a33 :: some d :: Γ) S Φ Ψ = Φ S d := propext ⟨fun ⟨_, e, h⟩ => by cases e; exact h, fun h => ⟨d, rfl, h⟩⟩
theorem nm34 {a0 a1 a2 a3 a4 a5 a6 a7 a8 a9 a10 a11 a12 a13 a14 a15 a16 a17 a18 a19 a20 a21 a22 a23 a24 a25 a26 a27 a28 a29 a30 a31 a32 a33 : Option D} {o : Option D} {d : D} : nmG 34 d (a0 :: a1 :: a2 :: a3 :: a4 :: a5 :: a6 :: a7 :: a8 :: a9 :: a10 :: a11 :: a12 :: a13 :: a14 :: a15 :: a16 :: a17 :: a18 :: a19 :: a20 :: a21 :: a22 :: a23 :: a24 :: a25 :: a26 :: a27 :: a28 :: a29 :: a30 :: a31 :: a32 :: a33 :: o :: Γ) S P = P (a0 :: a1 :: a2 :: a3 :: a4 :: a5 :: a6 :: a7 :: a8 :: a9 :: a10 :: a11 :: a12 :: a13 :: a14 :: a15 :: a16 :: a17 :: a18 :: a19 :: a20 :: a21 :: a22 :: a23 :: a24 :: a25 :: a26 :: a27 :: a28 :: a29 :: a30 :: a31 :: a32 :: a33 :: some d :: Γ) S := rfl
theorem dv35 {a0 a1 a2 a3 a4 a5 a6 a7 a8 a9 a10 a11 a12 a13 a14 a15 a16 a17 a18 a19 a20 a21 a22 a23 a24 a25 a26 a27 a28 a29 a30 a31 a32 a33 a34 : Option D} {d : D} : dVar 35 (a0 :: a1 :: a2 :: a3 :: a4 :: a5 :: a6 :: a7 :: a8 :: a9 :: a10 :: a11 :: a12 :: a13 :: a14 :: a15 :: a16 :: a17 :: a18 :: a19 :: a20 :: a21 :: a22 :: a23 :: a24 :: a25 :: a26 :: a27 :: a28 :: a29 :: a30 :: a31 :: a32 :: a33 :: a34 :: some d :: Γ) S Φ Ψ = Φ S d := propext ⟨fun ⟨_, e, h⟩ => by cases e; exact h, fun h => ⟨d, rfl, h⟩⟩
theorem nm35 {a0 a1 a2 a3 a4 a5 a6 a7 a8 a9 a10 a11 a12 a13 a14 a15 a16 a17 a18 a19 a20 a21 a22 a23 a24 a25 a26 a27 a28 a29 a30 a31 a32 a33 a34 : Option D} {o : Option D} {d : D} : nmG 35 d (a0 :: a1 :: a2 :: a3 :: a4 :: a5 :: a6 :: a7 :: a8 :: a9 :: a10 :: a11 :: a12 :: a13 :: a14 :: a15 :: a16 :: a17 :: a18 :: a19 :: a20 :: a21 :: a22 :: a23 :: a24 :: a25 :: a26 :: a27 :: a28 :: a29 :: a30 :: a31 :: a32 :: a33 :: a34 :: o :: Γ) S P = P (a0 :: a1 :: a2 :: a3 :: a4 :: a5 :: a6 :: a7 :: a8 :: a9 :: a10 :: a11 :: a12 :: a13 :: a14 :: a15 :: a16 :: a17 :: a18 :: a19 :: a20 :: a21 :: a22 :: a23 :: a24 :: a25 :: a26 :: a27 :: a28 :: a29 :: a30 :: a31 :: a32 :: a33 :: a34 :: some d :: Γ) S := rfl
theorem dv36 {a0 a1 a2 a3 a4 a5 a6 a7 a8 a9 a10 a11 a12 a13 a14 a15 a16 a17 a18 a19 a20 a21 a22 a23 a24 a25 a26 a27 a28 a29 a30 a31 a32 a33 a34 a35 : Option D} {d : D} : dVar 36 (a0 :: a1 :: a2 :: a3 :: a4 :: a5 :: a6 :: a7 :: a8 :: a9 :: a10 :: a11 :: a12 :: a13 :: a14 :: a15 :: a16 :: a17 :: a18 :: a19 :: a20 :: a21 :: a22 :: a23 :: a24 :: a25 :: a26 :: a27 :: a28 :: a29 :: a30 :: a31 :: a32 :: a33 :: a34 :: a35 :: some d :: Γ) S Φ Ψ = Φ S d := propext ⟨fun ⟨_, e, h⟩ => by cases e; exact h, fun h => ⟨d, rfl, h⟩⟩
theorem nm36 {a0 a1 a2 a3 a4 a5 a6 a7 a8 a9 a10 a11 a12 a13 a14 a15 a16 a17 a18 a19 a20 a21 a22 a23 a24 a25 a26 a27 a28 a29 a30 a31 a32 a33 a34 a35 : Option D} {o : Option D} {d : D} : nmG 36 d (a0 :: a1 :: a2 :: a3 :: a4 :: a5 :: a6 :: a7 :: a8 :: a9 :: a10 :: a11 :: a12 :: a13 :: a14 :: a15 :: a16 :: a17 :: a18 :: a19 :: a20 :: a21 :: a22 :: a23 :: a24 :: a25 :: a26 :: a27 :: a28 :: a29 :: a30 :: a31 :: a32 :: a33 :: a34 :: a35 :: o :: Γ) S P = P (a0 :: a1 :: a2 :: a3 :: a4 :: a5 :: a6 :: a7 :: a8 :: a9 :: a10 :: a11 :: a12 :: a13 :: a14 :: a15 :: a16 :: a17 :: a18 :: a19 :: a20 :: a21 :: a22 :: a23 :: a24 :: a25 :: a26 :: a27 :: a28 :: a29 :: a30 :: a31 :: a32 :: a33 :: a34 :: a35 :: some d :: Γ) S := rfl
theorem dv37 {a0 a1 a2 a3 a4 a5 a6 a7 a8 a9 a10 a11 a12 a13 a14 a15 a16 a17 a18 a19 a20 a21 a22 a23 a24 a25 a26 a27 a28 a29 a30 a31 a32 a33 a34 a35 a36 : Option D} {d : D} : dVar 37 (a0 :: a1 :: a2 :: a3 :: a4 :: a5 :: a6 :: a7 :: a8 :: a9 :: a10 :: a11 :: a12 :: a13 :: a14 :: a15 :: a16 :: a17 :: a18 :: a19 :: a20 :: a21 :: a22 :: a23 :: a24 :: a25 :: a26 :: a27 :: a28 :: a29 :: a30 :: a31 :: a32 :: a33 :: a34 :: a35 :: a36 :: some d :: Γ) S Φ Ψ = Φ S d := propext ⟨fun ⟨_, e, h⟩ => by cases e; exact h, fun h => ⟨d, rfl, h⟩⟩
theorem nm37 {a0 a1 a2 a3 a4 a5 a6 a7 a8 a9 a10 a11 a12 a13 a14 a15 a16 a17 a18 a19 a20 a21 a22 a23 a24 a25 a26 a27 a28 a29 a30 a31 a32 a33 a34 a35 a36 : Option D} {o : Option D} {d : D} : nmG 37 d (a0 :: a1 :: a2 :: a3 :: a4 :: a5 :: a6 :: a7 :: a8 :: a9 :: a10 :: a11 :: a12 :: a13 :: a14 :: a15 :: a16 :: a17 :: a18 :: a19 :: a20 :: a21 :: a22 :: a23 :: a24 :: a25 :: a26 :: a27 :: a28 :: a29 :: a30 :: a31 :: a32 :: a33 :: a34 :: a35 :: a36 :: o :: Γ) S P = P (a0 :: a1 :: a2 :: a3 :: a4 :: a5 :: a6 :: a7 :: a8 :: a9 :: a10 :: a11 :: a12 :: a13 :: a14 :: a15 :: a16 :: a17 :: a18 :: a19 :: a20 :: a21 :: a22 :: a23 :: a24 :: a25 :: a26 :: a27 :: a28 :: a29 :: a30 :: a31 :: a32 :: a33 :: a34 :: a35 :: a36 :: some d :: Γ) S := rfl
theorem dv38 {a0 a1 a2 a3 a4 a5 a6 a7 a8 a9 a10 a11 a12 a13 a14 a15 a16 a17 a18 a19 a20 a21 a22 a23 a24 a25 a26 a27 a28 a29 a30 a31 a32 a33 a34 a35 a36 a37 : Option D} {d : D} : dVar 38 (a0 :: a1 :: a2 :: a3 :: a4 :: a5 :: a6 :: a7 :: a8 :: a9 :: a10 :: a11 :: a12 :: a13 :: a14 :: a15 :: a16 :: a17 :: a18 :: a19 :: a20 :: a21 :: a22 :: a23 :: a24 :: a25 :: a26 :: a27 :: a28 :: a29 :: a30 :: a31 :: a32 :: a33 :: a34 :: a35 :: a36 :: a37 :: some d :: Γ) S Φ Ψ = Φ S d := propext ⟨fun ⟨_, e, h⟩ => by cases e; exact h, fun h => ⟨d, rfl, h⟩⟩
theorem nm38 {a0 a1 a2 a3 a4 a5 a6 a7 a8 a9 a10 a11 a12 a13 a14 a15 a16 a17 a18 a19 a20 a21 a22 a23 a24 a25 a26 a27 a28 a29 a30 a31 a32 a33 a34 a35 a36 a37 : Option D} {o : Option D} {d : D} : nmG 38 d (a0 :: a1 :: a2 :: a3 :: a4 :: a5 :: a6 :: a7 :: a8 :: a9 :: a10 :: a11 :: a12 :: a13 :: a14 :: a15 :: a16 :: a17 :: a18 :: a19 :: a20 :: a21 :: a22 :: a23 :: a24 :: a25 :: a26 :: a27 :: a28 :: a29 :: a30 :: a31 :: a32 :: a33 :: a34 :: a35 :: a36 :: a37 :: o :: Γ) S P = P (a0 :: a1 :: a2 :: a3 :: a4 :: a5 :: a6 :: a7 :: a8 :: a9 :: a10 :: a11 :: a12 :: a13 :: a14 :: a15 :: a16 :: a17 :: a18 :: a19 :: a20 :: a21 :: a22 :: a23 :: a24 :: a25 :: a26 :: a27 :: a28 :: a29 :: a30 :: a31 :: a32 :: a33 :: a34 :: a35 :: a36 :: a37 :: some d :: Γ) S := rfl
theorem dv39 {a0 a1 a2 a3 a4 a5 a6 a7 a8 a9 a10 a11 a12 a13 a14 a15 a16 a17 a18 a19 a20 a21 a22 a23 a24 a25 a26 a27 a28 a29 a30 a31 a32 a33 a34 a35 a36 a37 a38 : Option D} {d : D} : dVar 39 (a0 :: a1 :: a2 :: a3 :: a4 :: a5 :: a6 :: a7 :: a8 :: a9 :: a10 :: a11 :: a12 :: a13 :: a14 :: a15 :: a16 :: a17 :: a18 :: a19 :: a20 :: a21 :: a22 :: a23 :: a24 :: a25 :: a26 :: a27 :: a28 :: a29 :: a30 :: a31 :: a32 :: a33 :: a34 :: a35 :: a36 :: a37 :: a38 :: some d :: Γ) S Φ Ψ = Φ S d := propext ⟨fun ⟨_, e, h⟩ => by cases e; exact h, fun h => ⟨d, rfl, h⟩⟩
theorem nm39 {a0 a1 a2 a3 a4 a5 a6 a7 a8 a9 a10 a11 a12 a13 a14 a15 a16 a17 a18 a19 a20 a21 a22 a23 a24 a25 a26 a27 a28 a29 a30 a31 a32 a33 a34 a35 a36 a37 a38 : Option D} {o : Option D} {d : D} : nmG 39 d (a0 :: a1 :: a2 :: a3 :: a4 :: a5 :: a6 :: a7 :: a8 :: a9 :: a10 :: a11 :: a12 :: a13 :: a14 :: a15 :: a16 :: a17 :: a18 :: a19 :: a20 :: a21 :: a22 :: a23 :: a24 :: a25 :: a26 :: a27 :: a28 :: a29 :: a30 :: a31 :: a32 :: a33 :: a34 :: a35 :: a36 :: a37 :: a38 :: o :: Γ) S P = P (a0 :: a1 :: a2 :: a3 :: a4 :: a5 :: a6 :: a7 :: a8 :: a9 :: a10 :: a11 :: a12 :: a13 :: a14 :: a15 :: a16 :: a17 :: a18 :: a19 :: a20 :: a21 :: a22 :: a23 :: a24 :: a25 :: a26 :: a27 :: a28 :: a29 :: a30 :: a31 :: a32 :: a33 :: a34 :: a35 :: a36 :: a37 :: a38 :: some d :: Γ) S := rfl
theorem sPar_n {E : EdD} {i j : Nat} {T : TL} : sPar i j T E Γ S = (T Γ S (fun S1 ds => ∃ x y, ds = [x, y] ∧ nmG i x Γ S1 fun Γ' S' => nmG j y Γ' S' E.nx) E.er) := rfl
theorem sPar3_n {E : EdD} {i j l : Nat} {T : TL} : sPar3 i j l T E Γ S = (T Γ S (fun S1 ds => ∃ x y z, ds = [x, y, z] ∧ nmG i x Γ S1 fun Γ' S' => nmG j y Γ' S' fun Γ2 S2 => nmG l z Γ2 S2 E.nx) E.er) := rfl
theorem sAug_n {E : EdD} {i : Nat} {T : TD} {f : D → D → Sto → KD → Prop} : sAug i T f E Γ S = dVar i Γ S (fun _ d => T Γ S (fun S1 y => f d y S1 fun S2 z => nmG i z Γ S2 E.nx) E.er) E.er := rfl
end
end DL
namespace DL
open PySem PySem.Spec PyProof.Rows L2
abbrev wNo : WX := fun _ _ _ _ => False
end DL
namespace DL
open PySem PySem.Spec PyProof.Rows L2
section
variable {X : Cx} {W : WX} {e : Expr} {te : TE} {Te : TD}
def dLRg (T : TD) : TD := fun Γ S Φ Ψ => T Γ S (fun S1 d => ∃ n : Nat, d = .int n ∧ n ≤ 1000000 ∧ Φ S1 (.lst (rngD 0 n))) Ψ
def dLRgO (T : TD) : TD := fun Γ S Φ Ψ => T Γ S (fun S1 d => ∃ n : Nat, d = .int n ∧ n ≤ 1000000 ∧ Φ (S1 ++ [.lst (rngD 0 n)]) (.own S1.length)) Ψ
end
def dAddI := iOp0 fun i j => D.int (i + j)
def dSubI := iOp0 fun i j => D.int (i - j)
theorem ipd_addI {K : PySem.W.Frag} : IpD K (ipI fun i j => i + j) dAddI := ipd_int
theorem ipd_subI {K : PySem.W.Frag} : IpD K (ipI fun i j => i - j) dSubI := ipd_int
theorem dAddI_i {i j : Int} {S : Sto} {Φ : KD} : dAddI (.int i) (.int j) S Φ = Φ S (.int (i + j)) := rfl
theorem dSubI_i {i j : Int} {S : Sto} {Φ : KD} : dSubI (.int i) (.int j) S Φ = Φ S (.int (i - j)) := rfl
section
variable {Γ : Gam} {S : Sto} {Φ : KD} {Ψ : KX}
theorem dLRg_e {T : TD} : dLRg T Γ S Φ Ψ = T Γ S (fun S1 d => ∃ n : Nat, d = .int n ∧ n ≤ 1000000 ∧ Φ S1 (.lst (rngD 0 n))) Ψ := rfl
theorem dLRgO_e {T : TD} : dLRgO T Γ S Φ Ψ = T Γ S (fun S1 d => ∃ n : Nat, d = .int n ∧ n ≤ 1000000 ∧ Φ (S1 ++ [.lst (rngD 0 n)]) (.own S1.length)) Ψ := rfl
end
end DL
namespace DL
open PySem PySem.Spec PyProof.Rows L2
def putT (ks : List (List Key × D)) (k : List Key) (d : D) : List (List Key × D) :=
  if (ks.any fun kv => decide (kv.1 = k)) = true then ks.map (fun kv => if kv.1 = k then (kv.1, d) else kv) else ks ++ [(k, d)]
section
variable {K : PySem.W.Frag} {F : Hp} {al : List Addr} {us : List (List Key × V)} {ks : List (List Key × D)}
theorem RpT.keys (h : RpT K F al us ks) : us.map (·.1) = ks.map (·.1) := List.ext_getElem? fun i => by
  rw [List.getElem?_map, List.getElem?_map]
  cases q : ks[i]? with
  | none =>
    rw [List.getElem?_eq_none (by rw [h.1]; exact List.getElem?_eq_none_iff.mp q)]
    rfl
  | some p =>
    obtain ⟨v, e, _⟩ := h.2 i p.1 p.2 q
    rw [e]
    rfl
theorem RpT.put (h : RpT K F al us ks) (k : List Key) {v : V} {d : D} (r : Rp K F al v d) : RpT K F al (putK us k v) (putT ks k d) := by
  have ea : (us.any fun kv => decide (kv.1 = k)) = (ks.any fun kv => decide (kv.1 = k)) := by
    have e := congrArg (fun l : List (List Key) => l.any fun x => decide (x = k)) h.keys
    simp only [List.any_map] at e
    exact e
  unfold putK putT
  rw [ea]
  by_cases c : (ks.any fun kv => decide (kv.1 = k)) = true
  · rw [if_pos c, if_pos c]
    refine ⟨by rw [List.length_map, List.length_map]; exact h.1, fun i k' d' q => ?_⟩
    rw [List.getElem?_map] at q ⊢
    cases e : ks[i]? with
    | none => rw [e] at q; cases q
    | some p =>
      rw [e] at q
      obtain ⟨v', e2, r2⟩ := h.2 i p.1 p.2 e
      rw [e2]
      rw [Option.map_some] at q ⊢
      by_cases z : p.1 = k
      · rw [if_pos z] at q
        cases q
        exact ⟨v, by rw [if_pos z], r⟩
      · rw [if_neg z] at q
        cases q
        exact ⟨v', by rw [if_neg z], r2⟩
  · rw [if_neg c, if_neg c]
    refine ⟨by rw [List.length_append, List.length_append, h.1]; rfl, fun i k' d' q => ?_⟩
    by_cases z : i < ks.length
    · rw [List.getElem?_append_left z] at q
      rw [List.getElem?_append_left (by rw [h.1]; exact z)]
      exact h.2 i k' d' q
    · rw [List.getElem?_append_right (by omega)] at q
      rw [List.getElem?_append_right (by rw [h.1]; omega), h.1]
      cases m : i - ks.length with
      | zero =>
        rw [m] at q
        cases q
        exact ⟨v, rfl, r⟩
      | succ n =>
        rw [m] at q
        cases q
end
def dMulO (x y : D) (S : Sto) (Φ : KD) : Prop := ∃ xs, ∃ k : Nat, asL S x = some xs ∧ y = .int k ∧ xs.length * k ≤ 1000000 ∧ k ≤ 1000000 ∧ Φ (S ++ [.lst (List.replicate k xs).flatten]) (.own S.length)
def dNew : TD := fun Γ S Φ Ψ => Φ (S ++ [.dct []]) (.own S.length)
section
variable {X : Cx} {W : WX}
def sDct (Tv To : TD) (Tl : TL) : TSd := fun E Γ S => Tv Γ S (fun S1 v => To Γ S1 (fun S2 o => Tl Γ S2 (fun S3 ds => ∃ h ks, ∃ ns : List Int, o = .own h ∧ ds = ns.map D.int ∧ S3[h]? = some (.dct ks) ∧ ks.length < 1000000 ∧ ns.length ≤ 1000 ∧ E.nx Γ (S3.set h (.dct (putT ks (ns.map Sum.inl) v)))) E.er) E.er) E.er
end
section
variable {Γ : Gam} {S : Sto} {Φ : KD} {Ψ : KX}
theorem dNew_e : dNew Γ S Φ Ψ = Φ (S ++ [Cell.dct []]) (.own S.length) := rfl
theorem sDct_e {E : EdD} {Tv To : TD} {Tl : TL} : sDct Tv To Tl E Γ S = Tv Γ S (fun S1 v => To Γ S1 (fun S2 o => Tl Γ S2 (fun S3 ds => ∃ h ks, ∃ ns : List Int, o = .own h ∧ ds = ns.map D.int ∧ S3[h]? = some (.dct ks) ∧ ks.length < 1000000 ∧ ns.length ≤ 1000 ∧ E.nx Γ (S3.set h (.dct (putT ks (ns.map Sum.inl) v)))) E.er) E.er) E.er := rfl
theorem dMulO_l {xs : List D} {k : Nat} : dMulO (.lst xs) (.int k) S Φ = (xs.length * k ≤ 1000000 ∧ k ≤ 1000000 ∧ Φ (S ++ [.lst (List.replicate k xs).flatten]) (.own S.length)) := propext ⟨fun ⟨_, _, e1, e2, h⟩ => by cases e1; cases e2; exact h, fun h => ⟨_, _, rfl, rfl, h⟩⟩
end
section
variable {P : Program} {wd : World} {K : PySem.W.Frag} {mg : Str → Option Value} {base : Heap} {x : Str} {st : Stmt} {k : Nat} {ps : List Str}
theorem spOf_no {sp : DSpec} (h0 : ∀ ds S Φ Ψ, ¬ sp ds S Φ Ψ) {vs : List V} {H : Hp} {Q : VK} {E : XK} (h : spOf K sp vs H Q E) : False := by
  obtain ⟨w, S, ds, Φ, Ψ, _, _, _, h1, _⟩ := h
  exact h0 _ _ _ _ h1
/-- a def whose spec admits nothing -/
theorem calG_no {sp : DSpec} (F : Tx K mg x st)
    (hbind : ∀ (kV doc pm : Value) (an : Option Addr) (cdv ct : Value) (us : List Value), us.length = ps.length → bindArgs (PySem.W.fnOf x x (defArgs st) (defBody st) (defScope st) .none kV doc pm an cdv ct) ⟨us, []⟩ = pure (ps.zip us))
    (h0 : ∀ ds S Φ Ψ, ¬ sp ds S Φ Ψ) : CalG P wd K mg base x st k ps sp := by
  obtain ⟨f, fd, F, hm⟩ := F.ex
  exact ⟨f, fd, ⟨fun as H Q E h => (spOf_no h0 h).elim, fun Ar out s0 H ar us as Q E _ _ _ _ _ h => (spOf_no h0 h).elim⟩, hm, F, binds_of F hbind⟩
/-- a def that calls itself, to a depth -/
theorem calG_rec {N : List Str} {sp : Nat → DSpec} (F : Tx K mg x st)
    (hbind : ∀ (kV doc pm : Value) (an : Option Addr) (cdv ct : Value) (us : List Value), us.length = ps.length → bindArgs (PySem.W.fnOf x x (defArgs st) (defBody st) (defScope st) .none kV doc pm an cdv ct) ⟨us, []⟩ = pure (ps.zip us))
    (Sc : FnScope N ps (defScope st)) (len : ∀ m ds S Φ Ψ, sp m ds S Φ Ψ → ds.length = ps.length) (h0 : ∀ ds S Φ Ψ, ¬ sp 0 ds S Φ Ψ)
    (hbody : ∀ m, CalG P wd K mg base x st (k + m) ps (sp m) → ∀ (f : Addr) (cdv : Value) (A : Around) (outer : List Env) (s : Shared) (H : Hp) (E : XK), (A.deeper (envOfC x (defScope st) s.heap.objs.size f cdv)).guards = some [] → Room (k + m) (A.deeper (envOfC x (defScope st) s.heap.objs.size f cdv)) →
      ∃ t T, JB (cxOf (L2.CX P wd) P wd K mg base N x (defScope st) f cdv A outer s H E) (WD E) (defBody st) t T ∧ ∀ ds S Φ Ψ, sp (m + 1) ds S Φ Ψ → T { nx := fun _ S' => RetOk S Φ S' .non, rt := RetOk S Φ, er := ErOk S Ψ } (gstart N ds) S) :
    ∀ m, CalG P wd K mg base x st (k + m) ps (sp m)
  | 0 => calG_no F hbind h0
  | m + 1 => calG_ok F hbind Sc (len (m + 1)) (hbody m (calG_rec F hbind Sc len h0 hbody m))
end
end DL
namespace DL
open PySem PySem.Spec PyProof.Rows L2
section
variable {X : Cx} {W : WX} {e : Expr} {es : List Expr} {te : TE} {Te : TD} {tl : TA} {Tl : TL}
def dIsiT (T : TD) (Tl : TL) : TD := fun Γ S Φ Ψ => T Γ S (fun S1 d => Tl Γ S1 (fun S2 ds => ∃ a, ∃ ns : List String, ds = ns.map D.ty ∧ tyOf S2 d = some a ∧ ns.length ≤ 1000 ∧ (∀ n ∈ ns, n ∈ tyN) ∧ Φ S2 (.bl (ns.any (isTyB a)))) Ψ) Ψ
end
theorem dIsiT_e {Γ : Gam} {S : Sto} {Φ : KD} {Ψ : KX} {T : TD} {Tl : TL} : dIsiT T Tl Γ S Φ Ψ = T Γ S (fun S1 d => Tl Γ S1 (fun S2 ds => ∃ a, ∃ ns : List String, ds = ns.map D.ty ∧ tyOf S2 d = some a ∧ ns.length ≤ 1000 ∧ (∀ n ∈ ns, n ∈ tyN) ∧ Φ S2 (.bl (ns.any (isTyB a)))) Ψ) Ψ := rfl
end DL
namespace DL
open PySem PySem.Spec PyProof.Rows L2
def prD (p : Int × Int) : D := .tup [.int p.1, .int p.2]
section
variable {X : Cx} {W : WX} {e : Expr} {te : TE} {Te : TD}
def dLenSet (T : TD) : TD := fun Γ S Φ Ψ => T Γ S (fun S1 d => ∃ ns : List Int, asQ S1 d = some (ns.map D.int) ∧ ns.Nodup ∧ ns.length ≤ 4000 ∧ Φ S1 (.int ns.length)) Ψ
variable {Γ : Gam} {S : Sto} {Φ : KD} {Ψ : KX}
theorem dLenSet_e {T : TD} : dLenSet T Γ S Φ Ψ = T Γ S (fun S1 d => ∃ ns : List Int, asQ S1 d = some (ns.map D.int) ∧ ns.Nodup ∧ ns.length ≤ 4000 ∧ Φ S1 (.int ns.length)) Ψ := rfl
end
section
variable {X : Cx} {W : WX} {a b c d : Expr} {ta tb tc td : TE} {Ta Tb Tc Td : TD} {pos : Pos}
def bChain3 (f g h : D → D → Sto → KD → Prop) (Ta Tb Tc Td : TD) : TB := fun Γ S Φ Ψ => Ta Γ S (fun S1 x => Tb Γ S1 (fun S2 y => f x y S2 fun S3 z => ∃ k, z = .bl k ∧ (if k = true then Tc Γ S3 (fun S4 u => g y u S4 fun S5 z2 => ∃ k2, z2 = .bl k2 ∧ (if k2 = true then Td Γ S5 (fun S6 v => h u v S6 fun S7 z3 => ∃ k3, z3 = .bl k3 ∧ Φ S7 k3) Ψ else Φ S5 false)) Ψ else Φ S3 false)) Ψ) Ψ
variable {Γ : Gam} {S : Sto} {Φ : Sto → Bool → Prop} {Ψ : KX}
theorem bChain3_e {f g h : D → D → Sto → KD → Prop} : bChain3 f g h Ta Tb Tc Td Γ S Φ Ψ = Ta Γ S (fun S1 x => Tb Γ S1 (fun S2 y => f x y S2 fun S3 z => ∃ k, z = .bl k ∧ (if k = true then Tc Γ S3 (fun S4 u => g y u S4 fun S5 z2 => ∃ k2, z2 = .bl k2 ∧ (if k2 = true then Td Γ S5 (fun S6 v => h u v S6 fun S7 z3 => ∃ k3, z3 = .bl k3 ∧ Φ S7 k3) Ψ else Φ S5 false)) Ψ else Φ S3 false)) Ψ) Ψ := rfl
end
section
variable {X : Cx} {W : WX} {e e2 : Expr} {te te2 : TE} {Te Te2 : TD}
def dLRg2 (T U : TD) : TD := fun Γ S Φ Ψ => T Γ S (fun S1 x => U Γ S1 (fun S2 y => ∃ i n : Nat, x = .int i ∧ y = .int ((i + n : Nat) : Int) ∧ i + n ≤ 1000000 ∧ Φ S2 (.lst (rngD i n))) Ψ) Ψ
variable {Γ : Gam} {S : Sto} {Φ : KD} {Ψ : KX}
theorem dLRg2_e {T U : TD} : dLRg2 T U Γ S Φ Ψ = T Γ S (fun S1 x => U Γ S1 (fun S2 y => ∃ i n : Nat, x = .int i ∧ y = .int ((i + n : Nat) : Int) ∧ i + n ≤ 1000000 ∧ Φ S2 (.lst (rngD i n))) Ψ) Ψ := rfl
end
section
def dwD (i : Int) (n : Nat) : List D := (List.range n).map fun (k : Nat) => D.int (i - (k : Int))
def iRg3 (T : TL) : TId := fun Γ S Φ Ψ => T Γ S (fun S1 ds => ∃ i j, ds = [.int i, .int j, .int (-1)] ∧ (-(2 ^ 62) ≤ i ∧ i < 2 ^ 62 ∧ -(2 ^ 62) ≤ j ∧ j < 2 ^ 62) ∧ Φ S1 (fun _ => some (dwD i (i - j).toNat))) Ψ
variable {X : Cx} {W : WX} {a b c tg : Expr} {tl : TA} {Tl : TL} {p pos : Pos}
variable {Γ : Gam} {S : Sto} {Ψ : KX}
theorem iRg3_e {T : TL} {Φ : Sto → Src → Prop} : iRg3 T Γ S Φ Ψ = T Γ S (fun S1 ds => ∃ i j, ds = [.int i, .int j, .int (-1)] ∧ (-(2 ^ 62) ≤ i ∧ i < 2 ^ 62 ∧ -(2 ^ 62) ≤ j ∧ j < 2 ^ 62) ∧ Φ S1 (fun _ => some (dwD i (i - j).toNat))) Ψ := rfl
end
end DL
namespace DL
open PySem PySem.Spec PyProof.Rows L2
section
variable {X : Cx} {W : WX}
/-- [elt for tg in iter if .. for tg1 in iter1 if ..] -/
def dLc2 (I : TId) (G : TGd) (C : TB) (T1 : TD) (G1 : TGd) (C1 : TB) (Te : TD) (vs vs1 : List Nat) (Fin : List D → Sto → KD → Prop) : TD := fun Γ S Φ Ψ => I Γ S (fun S1 src => ∃ (P : Nat → List D → Sto → Prop) (n : Nat), P 0 [] S1 ∧
  (∀ i acc S', i ≤ n → P i acc S' → ∃ ds, src S' = some ds ∧ ds.length = n) ∧
  (∀ i acc S' ds d, P i acc S' → src S' = some ds → ds[i]? = some d → G d (gwipe Γ vs) S' fun Γ2 S2 => C Γ2 S2 (fun S3 k => if k = true then
      T1 Γ2 S3 (fun S4 d4 => (∃ ds, asQ S4 d4 = some ds) ∧ ∃ (P1 : Nat → List D → Sto → Prop) (n1 : Nat), P1 0 acc S4 ∧
        (∀ j acc1 S5, j ≤ n1 → P1 j acc1 S5 → ∃ ds1, asQ S5 d4 = some ds1 ∧ ds1.length = n1) ∧
        (∀ j acc1 S5 ds1 d1, P1 j acc1 S5 → asQ S5 d4 = some ds1 → ds1[j]? = some d1 → G1 d1 (gwipe Γ2 vs1) S5 fun Γ3 S6 => C1 Γ3 S6 (fun S7 k1 => if k1 = true then Te Γ3 S7 (fun S8 y => acc1.length < sizeLine ∧ P1 (j + 1) (acc1 ++ [y]) S8) (fun _ _ => False) else P1 (j + 1) acc1 S7) (fun _ _ => False)) ∧
        (∀ acc1 S5, P1 n1 acc1 S5 → P (i + 1) acc1 S5)) (fun _ _ => False) else P (i + 1) acc S3) (fun _ _ => False)) ∧
  (∀ acc S', P n acc S' → Fin acc S' Φ)) Ψ
end
/-- a part of a tuple, not the whole -/
def dSlT (d : D) (lo hi : Option Int) (S : Sto) (Φ : KD) : Prop := ∃ ds, d = .tup ds ∧ ¬ (HT.sIx ds.length 0 lo = 0 ∧ HT.sIx ds.length ds.length hi = ds.length) ∧ Φ S (.tup (cutD ds lo hi))
section
variable {Γ : Gam} {S : Sto} {Φ : KD} {Ψ : KX}
theorem dSlT_t {ds : List D} {lo hi : Option Int} : dSlT (.tup ds) lo hi S Φ = (¬ (HT.sIx ds.length 0 lo = 0 ∧ HT.sIx ds.length ds.length hi = ds.length) ∧ Φ S (.tup (cutD ds lo hi))) := propext ⟨fun ⟨_, e, h⟩ => by cases e; exact h, fun h => ⟨_, rfl, h⟩⟩
theorem dLc2_e {I : TId} {G G1 : TGd} {C C1 : TB} {T1 Te : TD} {vs vs1 : List Nat} {Fin : List D → Sto → KD → Prop} : dLc2 I G C T1 G1 C1 Te vs vs1 Fin Γ S Φ Ψ = I Γ S (fun S1 src => ∃ (P : Nat → List D → Sto → Prop) (n : Nat), P 0 [] S1 ∧
  (∀ i acc S', i ≤ n → P i acc S' → ∃ ds, src S' = some ds ∧ ds.length = n) ∧
  (∀ i acc S' ds d, P i acc S' → src S' = some ds → ds[i]? = some d → G d (gwipe Γ vs) S' fun Γ2 S2 => C Γ2 S2 (fun S3 k => if k = true then
      T1 Γ2 S3 (fun S4 d4 => (∃ ds, asQ S4 d4 = some ds) ∧ ∃ (P1 : Nat → List D → Sto → Prop) (n1 : Nat), P1 0 acc S4 ∧
        (∀ j acc1 S5, j ≤ n1 → P1 j acc1 S5 → ∃ ds1, asQ S5 d4 = some ds1 ∧ ds1.length = n1) ∧
        (∀ j acc1 S5 ds1 d1, P1 j acc1 S5 → asQ S5 d4 = some ds1 → ds1[j]? = some d1 → G1 d1 (gwipe Γ2 vs1) S5 fun Γ3 S6 => C1 Γ3 S6 (fun S7 k1 => if k1 = true then Te Γ3 S7 (fun S8 y => acc1.length < sizeLine ∧ P1 (j + 1) (acc1 ++ [y]) S8) (fun _ _ => False) else P1 (j + 1) acc1 S7) (fun _ _ => False)) ∧
        (∀ acc1 S5, P1 n1 acc1 S5 → P (i + 1) acc1 S5)) (fun _ _ => False) else P (i + 1) acc S3) (fun _ _ => False)) ∧
  (∀ acc S', P n acc S' → Fin acc S' Φ)) Ψ := rfl
end
end DL
namespace DL
open PySem PySem.Spec PyProof.Rows L2
def dDic1 (T : TD) (k : Str) : TD := fun Γ S Φ Ψ => T Γ S (fun S1 d => Φ S1 (.dic [(.inr k, d)])) Ψ
def dDic0 : TD := fun Γ S Φ Ψ => Φ S (.dic [])
section
variable {X : Cx} {W : WX} {e : Expr} {te : TE} {Te : TD} {pos p : Pos} {j : Nat} {k : Str}
/-- an object in the making, tracked from here on -/
theorem Good.made {K : PySem.W.Frag} {w : Hs} {S : Sto} (g : Good K w S) {p : Addr} (o : HO) (hF : w.F p = none) (hA : p ∉ w.al) : Good K ⟨upd w.F p o, w.al, upd w.H p o⟩ S := by
  refine ⟨fun a x q => ?_, g.nd, g.len, fun n a c q1 q2 => ?_, fun a q => ?_⟩
  · have q2 : upd w.F p o a = some x := q
    show upd w.H p o a = some x
    by_cases z : a = p
    · subst z; rw [upd_same] at q2 ⊢; exact q2
    · rw [upd_ne z] at q2 ⊢; exact g.sub a x q2
  · have hne : a ≠ p := fun z => hA (z ▸ List.mem_of_getElem? q1)
    have eF : ∀ b x, w.F b = some x → upd w.F p o b = some x := updF hF
    cases c with
    | gone => exact True.intro
    | lst ds =>
      obtain ⟨h1, ys, h2, h3⟩ := g.cell n a _ q1 q2
      exact ⟨by show upd w.F p o a = none; rw [upd_ne hne]; exact h1, ys, by show upd w.H p o a = _; rw [upd_ne hne]; exact h2, RpA.mono eF (fun _ _ z => z) ds ys h3⟩
    | ins C fs =>
      obtain ⟨h1, dx, ys, h2, h3⟩ := g.cell n a _ q1 q2
      exact ⟨by show upd w.F p o a = none; rw [upd_ne hne]; exact h1, dx, ys, by show upd w.H p o a = _; rw [upd_ne hne]; exact h2, RpF.mono eF (fun _ _ z => z) fs ys h3⟩
    | dct ks =>
      obtain ⟨h1, us, h2, h3⟩ := g.cell n a _ q1 q2
      exact ⟨by show upd w.F p o a = none; rw [upd_ne hne]; exact h1, us, by show upd w.H p o a = _; rw [upd_ne hne]; exact h2, h3.mono eF (fun _ _ z => z)⟩
    | dck ks =>
      obtain ⟨h1, us, h2, h3⟩ := g.cell n a _ q1 q2
      exact ⟨by show upd w.F p o a = none; rw [upd_ne hne]; exact h1, us, by show upd w.H p o a = _; rw [upd_ne hne]; exact h2, RpK.mono eF (fun _ _ z => z) ks us h3⟩
    | lck o' us ks =>
      obtain ⟨h1, h2, h3⟩ := g.cell n a _ q1 q2
      exact ⟨by show upd w.F p o a = none; rw [upd_ne hne]; exact h1, by show upd w.H p o a = _; rw [upd_ne hne]; exact h2, RpK.mono eF (fun _ _ z => z) ks us h3⟩
  · show upd w.H p o a ≠ none
    by_cases z : a = p
    · rw [z, upd_same]; exact fun z => nomatch z
    · rw [upd_ne z]; exact g.dom a q
theorem Ext.made {w0 w : Hs} (e : Ext w0 w) {p : Addr} (o : HO) (h0 : w0.H p = none) (hF : w.F p = none) : Ext w0 ⟨upd w.F p o, w.al, upd w.H p o⟩ := by
  refine ⟨fun a x z => updF hF a x (e.f a x z), e.al, fun a x z => ?_, fun a x q n => ?_, fun a q => ?_⟩
  · by_cases y : a = p
    · subst y; exact .inr (.inl h0)
    · have z : upd w.F p o a = some x := z
      rw [upd_ne y] at z
      exact e.new a x z
  · show upd w.H p o a = some x
    rw [upd_ne (ne_of_none q h0)]; exact e.kp a x q n
  · show upd w.H p o a ≠ none
    by_cases z : a = p
    · rw [z, upd_same]; exact fun z => nomatch z
    · rw [upd_ne z]; exact e.dm a q
end
section
variable {Γ : Gam} {S : Sto} {Φ : KD} {Ψ : KX}
theorem dDic0_e : dDic0 Γ S Φ Ψ = Φ S (.dic []) := rfl
theorem dDic1_e {T : TD} {k : Str} : dDic1 T k Γ S Φ Ψ = T Γ S (fun S1 d => Φ S1 (.dic [(.inr k, d)])) Ψ := rfl
end
end DL
namespace DL
open PySem PySem.Spec PyProof.Rows L2
/-- as Room, whatever is handled -/
structure RoomH (k : Nat) (A : Around) : Prop where
  dp : A.depth + 3 * k + 5 < recursionLimit
  un : A.units + 16 * k + 200 < cLine
theorem Room.h {k : Nat} {A : Around} (r : Room k A) : RoomH k A := ⟨r.dp, r.un⟩
theorem RoomH.mono {k n : Nat} {A : Around} (r : RoomH k A) (h : n ≤ k) : RoomH n A := ⟨by have := r.dp; omega, by have := r.un; omega⟩
theorem RoomH.deeper {k : Nat} {A : Around} (r : RoomH (k + 1) A) (env : Env) : RoomH k (A.deeper env) :=
  ⟨by have := r.dp; show A.depth + 1 + 3 * k + 5 < _; omega, by have := r.un; show A.units + 3 + 16 * k + 200 < _; omega⟩
theorem RoomH.depth {k : Nat} {A : Around} (r : RoomH k A) : A.depth < recursionLimit := by have := r.dp; omega
theorem RoomH.units {k : Nat} {A : Around} (r : RoomH k A) : A.units + 64 < cLine := by have := r.un; omega
end DL
namespace DL
open PySem PySem.Spec PyProof.Rows L2
section
variable (K : PySem.W.Frag) (W : WX)
structure RlF (σ : L2.St) (Γ : Gam) (w : Hs) (D' : EdD) (D : Ends) : Prop where
  nx : ∀ w' S', Ext w w' → Good K w' S' → D'.nx Γ S' → D.nx σ w'.H
  rt : OkD K w D'.rt D.rt
  er : OkX K W w D'.er σ
def SemF (t : TS) (T : TSd) : Prop := ∀ D' Γ S σ w D, Good K w S → Slots K w σ Γ → T D' Γ S → RlF K W σ Γ w D' D → t D σ w.H
end
section
variable {K : PySem.W.Frag} {W : WX} {w w' : Hs}
theorem RlF.ext {σ : L2.St} {Γ : Gam} {D' : EdD} {D : Ends} (h : RlF K W σ Γ w D' D) (e : Ext w w') : RlF K W σ Γ w' D' D := ⟨fun w2 S2 e2 => h.nx w2 S2 (e.trans e2), h.rt.ext e, h.er.ext e⟩
end
structure JF (X : Cx) (W : WX) (st : Stmt) (t : TS) (T : TSd) : Prop where
  ps : PS X st t
  sem : SemF X.K W t T
structure JFB (X : Cx) (W : WX) (st : List Stmt) (t : TS) (T : TSd) : Prop where
  pss : PSs X st t
  sem : SemF X.K W t T
section
variable {X : Cx} {W : WX} {e c : Expr} {pos : Pos} {te : TE} {Te : TD} {st : Stmt} {rest : List Stmt} {t u : TS} {T U : TSd}
theorem jfb_one (h1 : JF X W st t T) : JFB X W [st] t T := ⟨pss_one h1.ps, h1.sem⟩
theorem jf_expr (he : JE X W e te Te) (hs : swapsWith e none pos.line X.env = pure false := by rfl) : JF X W (.Expr e pos) (tDrop te) (sDrop Te) := ⟨ps_expr he.pe hs, fun D' Γ S σ w D g sl h r =>
  he.sem Γ S _ _ σ w g sl h r.er _ fun v d w' S' e' g' _ h' => r.nx w' S' e' g' h'⟩
end
/-- try: T / except of Cs as the name at i: U -/
def sTryH (Cs : List Addr) (i : Nat) (T U : TSd) : TSd := fun E Γ S => T { nx := E.nx, rt := E.rt, er := fun S1 x => x.cls ∈ Cs ∧ i < Γ.length ∧ U { nx := fun Γ' S' => E.nx (Γ'.set i none) S', rt := E.rt, er := fun _ _ => False } (Γ.set i (some (.exc x.cls x.fs))) S1 } Γ S
end DL
namespace DL
open PySem PySem.Spec PyProof.Rows L2
/-- the different ones among ns -/
def uniqI (ns : List Int) : List Int := PyProof.Rows.firstMet (fun i => ns.getD i 0) ns.length
section
variable {X : Cx} {W : WX} {e : Expr} {te : TE} {Te : TD}
def dLenSetG (T : TD) : TD := fun Γ S Φ Ψ => T Γ S (fun S1 d => ∃ ns : List Int, asQ S1 d = some (ns.map D.int) ∧ ns.length ≤ 4000 ∧ Φ S1 (.int (uniqI ns).length)) Ψ
variable {Γ : Gam} {S : Sto} {Φ : KD} {Ψ : KX}
theorem dLenSetG_e {T : TD} : dLenSetG T Γ S Φ Ψ = T Γ S (fun S1 d => ∃ ns : List Int, asQ S1 d = some (ns.map D.int) ∧ ns.length ≤ 4000 ∧ Φ S1 (.int (uniqI ns).length)) Ψ := rfl
end
end DL
namespace DL
open PySem PySem.Spec PyProof.Rows L2
def dIsB (x y : D) (S : Sto) (Φ : KD) : Prop := match x, y with
  | .bl a, .bl b => Φ S (.bl (decide (a = b)))
  | _, _ => False
theorem dIsB_b {a b : Bool} {S : Sto} {Φ : KD} : dIsB (.bl a) (.bl b) S Φ = Φ S (.bl (decide (a = b))) := rfl
/-- showable, of depth n at most, its text m long at most -/
structure FitX (n m : Nat) (p : PyData) : Prop where
  show_ : p.showable = true
  deep : p.depth ≤ n
  len : p.shown.length ≤ m
theorem FitX.mono {n m n' m' : Nat} {p : PyData} (h : FitX n m p) (a : n ≤ n') (b : m ≤ m') : FitX n' m' p := ⟨h.show_, Nat.le_trans h.deep a, Nat.le_trans h.len b⟩
end DL
namespace DL
open PySem PySem.Spec PyProof.Rows L2
theorem sTryH_e {E : EdD} {Cs : List Addr} {i : Nat} {T U : TSd} {Γ : Gam} {S : Sto} : sTryH Cs i T U E Γ S = T { nx := E.nx, rt := E.rt, er := fun S1 x => x.cls ∈ Cs ∧ i < Γ.length ∧ U { nx := fun Γ' S' => E.nx (Γ'.set i none) S', rt := E.rt, er := fun _ _ => False } (Γ.set i (some (.exc x.cls x.fs))) S1 } Γ S := rfl
end DL
namespace DL
open PySem PySem.Spec PyProof.Rows L2
/-- a tuple behind a tuple, both of something -/
def dAddT (x y : D) (S : Sto) (Φ : KD) : Prop := ∃ ds es, x = .tup ds ∧ y = .tup es ∧ ds ≠ [] ∧ es ≠ [] ∧ ds.length + es.length ≤ sizeLine ∧ Φ S (.tup (ds ++ es))
section
variable {S : Sto} {Φ : KD}
theorem dAddT_t {ds es : List D} : dAddT (.tup ds) (.tup es) S Φ = (ds ≠ [] ∧ es ≠ [] ∧ ds.length + es.length ≤ sizeLine ∧ Φ S (.tup (ds ++ es))) := propext ⟨fun ⟨_, _, e1, e2, h⟩ => by cases e1; cases e2; exact h, fun h => ⟨_, _, rfl, rfl, h⟩⟩
end
end DL
namespace DL
open PySem PySem.Spec PyProof.Rows L2
section
variable {X : Cx} {W : WX} {a b e : Expr} {ta : TA} {te : TE} {p p2 pos pos2 tpos : Pos} {elts : List Expr} {kk : Nat}
/-- zip(range(a, b), e) -/
def iZrD (T : TL) (U : TD) : TId := fun Γ S Φ Ψ => T Γ S (fun S1 ds => ∃ i j : Int, ds = [.int i, .int j] ∧ (-(2 ^ 62) ≤ i ∧ i < 2 ^ 62 ∧ -(2 ^ 62) ≤ j ∧ j < 2 ^ 62) ∧ U Γ S1 (fun S2 d => (∃ ys, asQ S2 d = some ys) ∧ Φ S2 (fun S' => (asQ S' d).map fun ys => zipD (rngD i (j - i).toNat) ys)) Ψ) Ψ
section
variable {Γ : Gam} {S : Sto} {Ψ : KX}
theorem iZrD_e {T : TL} {U : TD} {Φ : Sto → Src → Prop} : iZrD T U Γ S Φ Ψ = T Γ S (fun S1 ds => ∃ i j : Int, ds = [.int i, .int j] ∧ (-(2 ^ 62) ≤ i ∧ i < 2 ^ 62 ∧ -(2 ^ 62) ≤ j ∧ j < 2 ^ 62) ∧ U Γ S1 (fun S2 d => (∃ ys, asQ S2 d = some ys) ∧ Φ S2 (fun S' => (asQ S' d).map fun ys => zipD (rngD i (j - i).toNat) ys)) Ψ) Ψ := rfl
end
end
end DL
namespace DL
open PySem PySem.Spec PyProof.Rows L2
def kD : Key → D
  | .inl i => .int i
  | .inr x => .str x
theorem kD_of {K : PySem.W.Frag} {F : Hp} {al : List Addr} {k : Key} {v : V} (r : Rp K F al v (kD k)) : v = kV k := by
  cases k with
  | inl i => cases r; rfl
  | inr x => cases r; rfl
theorem kD_inj : ∀ {k j : Key}, kD k = kD j → k = j
  | .inl _, .inl _, e => by cases e; rfl
  | .inr _, .inr _, e => by cases e; rfl
  | .inl _, .inr _, e => by cases e
  | .inr _, .inl _, e => by cases e
def atD (ks : List (Key × D)) (k : Key) : Option D := (ks.find? fun p => decide (p.1 = k)).map (·.2)
def pKD (ks : List (Key × D)) (k : Key) (d : D) : List (Key × D) :=
  if (ks.any fun p => decide (p.1 = k)) = true then ks.map (fun p => if p.1 = k then (p.1, d) else p) else ks ++ [(k, d)]
section
variable {K : PySem.W.Frag} {F : Hp} {al : List Addr}
theorem RpK.len : ∀ {us : List (Key × V)} {ks : List (Key × D)}, RpK K F al us ks → us.length = ks.length
  | _, _, .nil => rfl
  | _, _, .cons _ t => by rw [List.length_cons, List.length_cons, RpK.len t]
theorem RpK.anyE (k : Key) : ∀ {us : List (Key × V)} {ks : List (Key × D)}, RpK K F al us ks → (us.any fun p => decide (p.1 = k)) = (ks.any fun p => decide (p.1 = k))
  | _, _, .nil => rfl
  | _, _, .cons _ t => by rw [List.any_cons, List.any_cons, RpK.anyE k t]
theorem RpK.mapE (k : Key) {v : V} {d : D} (r : Rp K F al v d) : ∀ {us : List (Key × V)} {ks : List (Key × D)}, RpK K F al us ks → RpK K F al (us.map fun p => if p.1 = k then (p.1, v) else p) (ks.map fun p => if p.1 = k then (p.1, d) else p)
  | _, _, .nil => .nil
  | _, _, @RpK.cons _ _ _ n u us' e ds' h t => by
    rw [List.map_cons, List.map_cons (l := ds')]
    by_cases z : n = k
    · rw [if_pos z, if_pos z]; exact .cons r (RpK.mapE k r t)
    · rw [if_neg z, if_neg z]; exact .cons h (RpK.mapE k r t)
theorem RpK.end1 {k : Key} {v : V} {d : D} (r : Rp K F al v d) : ∀ {us : List (Key × V)} {ks : List (Key × D)}, RpK K F al us ks → RpK K F al (us ++ [(k, v)]) (ks ++ [(k, d)])
  | _, _, .nil => .cons r .nil
  | _, _, .cons h t => .cons h (RpK.end1 r t)
theorem RpK.putE {us : List (Key × V)} {ks : List (Key × D)} (h : RpK K F al us ks) (k : Key) {v : V} {d : D} (r : Rp K F al v d) : RpK K F al (putK us k v) (pKD ks k d) := by
  have ea := h.anyE k
  unfold putK pKD
  rw [ea]
  by_cases c : (ks.any fun p => decide (p.1 = k)) = true
  · rw [if_pos c, if_pos c]; exact h.mapE k r
  · rw [if_neg c, if_neg c]; exact h.end1 r
theorem RpK.atE (k : Key) : ∀ {us : List (Key × V)} {ks : List (Key × D)}, RpK K F al us ks → (∀ d, atD ks k = some d → ∃ v, valV us k = some v ∧ Rp K F al v d) ∧ (atD ks k = none → valV us k = none)
  | _, _, .nil => ⟨fun d e => by simp [atD] at e, fun _ => rfl⟩
  | _, _, @RpK.cons _ _ _ n u us' e ds' h t => by
    have ih := RpK.atE k t
    by_cases z : n = k
    · have e1 : atD ((n, e) :: ds') k = some e := by simp [atD, List.find?_cons, z]
      have e2 : valV ((n, u) :: us') k = some u := valV_pos (p := (n, u)) z
      rw [e1, e2]
      exact ⟨fun d q => by cases q; exact ⟨u, rfl, h⟩, fun q => by cases q⟩
    · have e1 : atD ((n, e) :: ds') k = atD ds' k := by simp [atD, List.find?_cons, z]
      have e2 : valV ((n, u) :: us') k = valV us' k := valV_neg (p := (n, u)) z
      rw [e1, e2]
      exact ih
end
theorem dck_at {K : PySem.W.Frag} {w : Hs} {S : Sto} (g : Good K w S) {h : Nat} {v : V} {ks : List (Key × D)} (r : Rv K w v (.own h)) (e : S[h]? = some (.dck ks)) : ∃ a us, v = .ref a ∧ w.al[h]? = some a ∧ w.F a = none ∧ w.H a = some (.dK us) ∧ RpK K w.F w.al us ks := by
  cases r with
  | @own h a q =>
    obtain ⟨hF, us, h2, h3⟩ := g.cell h a _ q e
    exact ⟨a, us, rfl, q, hF, h2, h3⟩
def dNewK : TD := fun Γ S Φ Ψ => Φ (S ++ [.dck []]) (.own S.length)
/-- {k: v} -/
def dDis1 (Tk Tv : TD) : TD := fun Γ S Φ Ψ => Tk Γ S (fun S1 y => Tv Γ S1 (fun S2 z => ∃ k, y = kD k ∧ Φ (S2 ++ [.dck [(k, z)]]) (.own S2.length)) Ψ) Ψ
theorem Ext.madeC {w0 w : Hs} (e : Ext w0 w) {p : Addr} (o : HO) (h0 : w0.H p = none) : Ext w0 ⟨w.F, w.al ++ [p], upd w.H p o⟩ := by
  refine ⟨e.f, ?_, e.new, fun a x q n => ?_, fun a q => ?_⟩
  · obtain ⟨β, eb, hb⟩ := e.al
    refine ⟨β ++ [p], by show w.al ++ [p] = _; rw [eb, List.append_assoc], fun b hm => ?_⟩
    rcases List.mem_append.mp hm with y | y
    · exact hb b y
    · rw [List.mem_singleton.mp y]; exact h0
  · show upd w.H p o a = some x
    rw [upd_ne (ne_of_none q h0)]; exact e.kp a x q n
  · show upd w.H p o a ≠ none
    by_cases z : a = p
    · rw [z, upd_same]; exact fun z => nomatch z
    · rw [upd_ne z]; exact e.dm a q
/-- the hidden thing at p becomes a cell -/
theorem Good.madeC {K : PySem.W.Frag} {w : Hs} {S : Sto} (g : Good K w S) {p : Addr} {o : HO} {c0 : Cell} (hF : w.F p = none) (hA : p ∉ w.al) (ok : CellOk K ⟨w.F, w.al ++ [p], upd w.H p o⟩ p c0) : Good K ⟨w.F, w.al ++ [p], upd w.H p o⟩ (S ++ [c0]) := by
  have am : ∀ (n : Nat) (a : Addr), w.al[n]? = some a → (w.al ++ [p])[n]? = some a := fun n a z => by
    rw [List.getElem?_append_left (List.getElem?_eq_some_iff.mp z).1]; exact z
  refine ⟨fun a x q => ?_, ?_, ?_, fun n a c q1 q2 => ?_, fun a z => ?_⟩
  · show upd w.H p o a = some x
    rw [upd_ne (ne_of_none q hF)]; exact g.sub a x q
  · show (w.al ++ [p]).Nodup
    rw [List.nodup_append]
    exact ⟨g.nd, by simp, fun a ha b hb => fun z => hA (List.mem_singleton.mp hb ▸ z ▸ ha)⟩
  · show (w.al ++ [p]).length = (S ++ [c0]).length
    simp [g.len]
  · have q1 : (w.al ++ [p])[n]? = some a := q1
    by_cases hn : n < w.al.length
    · rw [List.getElem?_append_left hn] at q1
      rw [List.getElem?_append_left (by rw [← g.len]; exact hn)] at q2
      have hne : a ≠ p := fun z => hA (z ▸ List.mem_of_getElem? q1)
      have ok2 := g.cell n a c q1 q2
      cases c with
      | gone => exact True.intro
      | lst ds =>
        obtain ⟨h1, ys, h2, h3⟩ := ok2
        exact ⟨h1, ys, by show upd w.H p o a = _; rw [upd_ne hne]; exact h2, RpA.mono (fun _ _ z => z) am ds ys h3⟩
      | ins C fs =>
        obtain ⟨h1, dx, ys, h2, h3⟩ := ok2
        exact ⟨h1, dx, ys, by show upd w.H p o a = _; rw [upd_ne hne]; exact h2, RpF.mono (fun _ _ z => z) am fs ys h3⟩
      | dct ks =>
        obtain ⟨h1, us, h2, h3⟩ := ok2
        exact ⟨h1, us, by show upd w.H p o a = _; rw [upd_ne hne]; exact h2, h3.mono (fun _ _ z => z) am⟩
      | dck ks =>
        obtain ⟨h1, us, h2, h3⟩ := ok2
        exact ⟨h1, us, by show upd w.H p o a = _; rw [upd_ne hne]; exact h2, RpK.mono (fun _ _ z => z) am ks us h3⟩
      | lck o' us ks =>
        obtain ⟨h1, h2, h3⟩ := ok2
        exact ⟨h1, by show upd w.H p o a = _; rw [upd_ne hne]; exact h2, RpK.mono (fun _ _ z => z) am ks us h3⟩
    · have hn2 : n = w.al.length := by
        have := (List.getElem?_eq_some_iff.mp q1).1
        simp at this
        omega
      subst hn2
      rw [List.getElem?_append_right (Nat.le_refl _), Nat.sub_self] at q1
      rw [g.len, List.getElem?_append_right (Nat.le_refl _), Nat.sub_self] at q2
      have e1 : p = a := Option.some.inj q1
      have e2 : c0 = c := Option.some.inj q2
      subst e1; subst e2
      exact ok
  · show upd w.H p o a ≠ none
    by_cases y : a = p
    · rw [y]; exact upd_some
    · rw [upd_ne y]
      refine g.dom a ?_
      rcases List.mem_append.mp (show a ∈ w.al ++ [p] from z) with m | m
      · exact m
      · exact absurd (List.mem_singleton.mp m) y
theorem own_last {K : PySem.W.Frag} {w : Hs} {S : Sto} (g : Good K w S) {F H : Hp} {p : Addr} : Rv K ⟨F, w.al ++ [p], H⟩ (.ref p) (.own S.length) := .own (by
  show (w.al ++ [p])[S.length]? = some p
  rw [← g.len]; simp)
section
variable {X : Cx} {W : WX} {e k v o i f value : Expr} {pos pos' apos cpos mpos p : Pos} {te tk tv to ti tx : TE} {Te Tk Tv To Ti Tx : TD}
theorem je_dnewK : JE X W (.Dict [] [] pos) tDNewK dNewK := ⟨pe_dnewK, fun Γ S Φ Ψ σ w g sl hT hx Q q => fun p hp =>
  q (.ref p) (.own S.length) _ _ ((Ext.refl w).madeC (.dK []) hp) (g.madeC (c0 := .dck []) (g.notF hp) (g.notA hp) ⟨g.notF hp, [], upd_same, .nil⟩) (own_last g) (show Φ (S ++ [Cell.dck []]) (.own S.length) from hT)⟩
/-- d[k] = v -/
def sDkp (Tv To Ti : TD) : TSd := fun E Γ S => Tv Γ S (fun S1 v => To Γ S1 (fun S2 o => Ti Γ S2 (fun S3 y => ∃ h ks k, o = .own h ∧ y = kD k ∧ S3[h]? = some (.dck ks) ∧ ks.length < 1000000 ∧ E.nx Γ (S3.set h (.dck (pKD ks k v)))) E.er) E.er) E.er
theorem js_dkp (hu : X.A.units + 64 < cLine) (ho : JE X W o to To) (hi : JE X W i ti Ti) (hv : JE X W value tv Tv) (hs : swapsWith value (some (.Subscript o i pos')) pos.line X.env = pure false := by rfl) :
    JS X W (.Assign [.Subscript o i pos'] value pos) (sDPut to ti tv) (sDkp Tv To Ti) :=
  ⟨ps_dput (by omega) ho.pe hi.pe hv.pe hs, fun D' Γ S σ w D g sl hT r =>
    hv.sem Γ S _ _ σ w g sl hT (r.er σ) _ fun v d w1 S1 e1 g1 r1 h1 => ho.sem Γ S1 _ _ σ w1 g1 (sl.ext e1) h1 ((r.er σ).ext e1) _ fun x od w2 S2 e2 g2 r2 h2 =>
      hi.sem Γ S2 _ _ σ w2 g2 (sl.ext (e1.trans e2)) h2 ((r.er σ).ext (e1.trans e2)) _ fun y dy w3 S3 e3 g3 r3 ⟨h, ks, k, eo, ey, es, hk, hn⟩ => by
        subst eo ey
        cases kD_of r3
        obtain ⟨a, us, rfl, hal, hF, hH, rt⟩ := dck_at g3 (e3.rp r2) es
        have g5 := g3.write (o := .dK (putK us k v)) (c0 := .dck (pKD ks k d)) hal (List.getElem?_eq_some_iff.mp es).1 hF ⟨hF, _, upd_same, rt.putE k ((e2.trans e3).rp r1)⟩
        have e5 : Ext w3 (w3.wr a (.dK (putK us k v))) := Ext.wr _ (List.mem_of_getElem? hal)
        have ex := (e1.trans e2).trans (e3.trans e5)
        exact ⟨a, _, rfl, DPut.k hH (by rw [rt.len]; exact Nat.lt_of_lt_of_le hk (by decide)), r.nx _ _ _ _ ex g5 (sl.ext ex) hn⟩⟩
/-- d[k] -/
def dDGet (To Ti : TD) : TD := fun Γ S Φ Ψ => To Γ S (fun S1 o => Ti Γ S1 (fun S2 y => ∃ h ks k d, o = .own h ∧ y = kD k ∧ S2[h]? = some (.dck ks) ∧ atD ks k = some d ∧ Φ S2 d) Ψ) Ψ
theorem je_dget (hu : X.A.units + 64 < cLine) (ho : JE X W o to To) (hi : JE X W i ti Ti) (hs : NoSl i := by intro _ _; rfl) : JE X W (.Subscript o i pos) (tDGet to ti) (dDGet To Ti) :=
  ⟨pe_dget (by omega) ho.pe hi.pe hs, fun Γ S Φ Ψ σ w g sl hT hx Q q => ho.sem Γ S _ _ σ w g sl hT hx _ fun x od w1 S1 e1 g1 r1 h1 =>
    hi.sem Γ S1 _ _ σ w1 g1 (sl.ext e1) h1 (hx.ext e1) _ fun y dy w2 S2 e2 g2 r2 ⟨h, ks, k, d, eo, ey, es, ed, hn⟩ => by
      subst eo ey
      cases kD_of r2
      obtain ⟨a, us, rfl, hal, hF, hH, rt⟩ := dck_at g2 (e2.rp r1) es
      obtain ⟨v, ev, rv⟩ := (rt.atE k).1 d ed
      exact ⟨a, v, rfl, ev ▸ DGet.k hH, q v d w2 S2 (e1.trans e2) g2 rv hn⟩⟩
/-- d.get(k, x) -/
def dDGet2 (To Ti Tx : TD) : TD := fun Γ S Φ Ψ => To Γ S (fun S1 o => ∃ h ks, o = .own h ∧ S1[h]? = some (.dck ks) ∧ Ti Γ S1 (fun S2 y => Tx Γ S2 (fun S3 z => ∃ ks k, y = kD k ∧ S3[h]? = some (.dck ks) ∧ Φ S3 ((atD ks k).getD z)) Ψ) Ψ) Ψ
theorem je_dget2 (hu : X.A.units + 64 < cLine) (ho : JE X W o to To) (hi : JE X W i ti Ti) (hf : JE X W f tx Tx) (m : M2 X o "get" apos i f cpos) : JE X W (.Call (.Attribute o "get" apos) [i, f] [] cpos) (tDGet2 to ti tx) (dDGet2 To Ti Tx) :=
  ⟨pe_dget2 (by omega) ho.pe hi.pe hf.pe m, fun Γ S Φ Ψ σ w g sl hT hx Q q => ho.sem Γ S _ _ σ w g sl hT hx _ fun x od w1 S1 e1 g1 r1 ⟨h, ks0, eo, es0, h1⟩ => by
    subst eo
    obtain ⟨a, us0, rfl, hal0, hF0, hH0, rt0⟩ := dck_at g1 r1 es0
    refine ⟨a, rfl, .inl ⟨us0, .inl hH0⟩, ?_⟩
    refine hi.sem Γ S1 _ _ σ w1 g1 (sl.ext e1) h1 (hx.ext e1) _ fun y dy w2 S2 e2 g2 r2 h2 => ?_
    refine hf.sem Γ S2 _ _ σ w2 g2 (sl.ext (e1.trans e2)) h2 (hx.ext (e1.trans e2)) _ fun z dz w3 S3 e3 g3 r3 ⟨ks, k, ey, es, hn⟩ => ?_
    subst ey
    cases kD_of r2
    obtain ⟨a', us, ea, hal, hF, hH, rt⟩ := dck_at g3 ((e2.trans e3).rp r1) es
    cases ea
    refine ⟨_, DGet.k hH, ?_⟩
    cases ed : atD ks k with
    | none =>
      rw [(rt.atE k).2 ed]
      rw [ed] at hn
      exact q z dz w3 S3 ((e1.trans e2).trans e3) g3 r3 hn
    | some d =>
      obtain ⟨v, ev, rv⟩ := (rt.atE k).1 d ed
      rw [ev]
      rw [ed] at hn
      exact q v d w3 S3 ((e1.trans e2).trans e3) g3 rv hn⟩
def dLVals (To : TD) : TD := fun Γ S Φ Ψ => To Γ S (fun S1 o => ∃ h ks, o = .own h ∧ S1[h]? = some (.dck ks) ∧ Φ S1 (.lst (ks.map (·.2)))) Ψ
end
section
variable {Γ : Gam} {S : Sto} {Φ : KD} {Ψ : KX} {To Ti Tx Tk Tv : TD}
theorem dNewK_e : dNewK Γ S Φ Ψ = Φ (S ++ [Cell.dck []]) (.own S.length) := rfl
theorem dDis1_e : dDis1 Tk Tv Γ S Φ Ψ = Tk Γ S (fun S1 y => Tv Γ S1 (fun S2 z => ∃ k, y = kD k ∧ Φ (S2 ++ [.dck [(k, z)]]) (.own S2.length)) Ψ) Ψ := rfl
theorem sDkp_e {E : EdD} : sDkp Tv To Ti E Γ S = Tv Γ S (fun S1 v => To Γ S1 (fun S2 o => Ti Γ S2 (fun S3 y => ∃ h ks k, o = .own h ∧ y = kD k ∧ S3[h]? = some (.dck ks) ∧ ks.length < 1000000 ∧ E.nx Γ (S3.set h (.dck (pKD ks k v)))) E.er) E.er) E.er := rfl
theorem dDGet_e : dDGet To Ti Γ S Φ Ψ = To Γ S (fun S1 o => Ti Γ S1 (fun S2 y => ∃ h ks k d, o = .own h ∧ y = kD k ∧ S2[h]? = some (.dck ks) ∧ atD ks k = some d ∧ Φ S2 d) Ψ) Ψ := rfl
theorem dDGet2_e : dDGet2 To Ti Tx Γ S Φ Ψ = To Γ S (fun S1 o => ∃ h ks, o = .own h ∧ S1[h]? = some (.dck ks) ∧ Ti Γ S1 (fun S2 y => Tx Γ S2 (fun S3 z => ∃ ks k, y = kD k ∧ S3[h]? = some (.dck ks) ∧ Φ S3 ((atD ks k).getD z)) Ψ) Ψ) Ψ := rfl
theorem dLVals_e : dLVals To Γ S Φ Ψ = To Γ S (fun S1 o => ∃ h ks, o = .own h ∧ S1[h]? = some (.dck ks) ∧ Φ S1 (.lst (ks.map (·.2)))) Ψ := rfl
/-- a key that is an int -/
theorem kD_ex_i {i : Int} {P : Key → Prop} : (∃ k, D.int i = kD k ∧ P k) = P (.inl i) := by
  refine propext ⟨fun h => ?_, fun h => ⟨.inl i, rfl, h⟩⟩
  obtain ⟨k, e, h⟩ := h
  have e2 : k = .inl i := kD_inj (k := k) (j := .inl i) e.symm
  rw [← e2]
  exact h
end
end DL
namespace DL
open PySem PySem.Spec PyProof.Rows L2
def ltP (a b : Int × Int) : Prop := a.1 < b.1 ∨ (a.1 = b.1 ∧ a.2 < b.2)
def dSS (I : TId) (G : TGd) (Te : TD) (vs : List Nat) : TD := fun Γ S Φ Ψ => I Γ S (fun S1 src => ∃ (ps : List (Int × Int)) (ds : List D), src S1 = some ds ∧ ds.length = ps.length ∧ ps.length < 64 ∧ (∀ p ∈ ps, 0 ≤ p.1 ∧ 0 ≤ p.2) ∧
  (∀ (i : Nat) (d : D) (p : Int × Int), ds[i]? = some d → ps[i]? = some p → G d (gwipe Γ vs) S1 fun Γ2 S2 => S2 = S1 ∧ Te Γ2 S1 (fun S3 z => S3 = S1 ∧ z = prD p) (fun _ _ => False)) ∧
  (∀ qs : List (Int × Int), (∀ p, p ∈ qs ↔ p ∈ ps) → qs.Pairwise ltP → Φ S1 (.lst (qs.map prD)))) Ψ
section
variable {Γ : Gam} {S : Sto} {Φ : KD} {Ψ : KX}
theorem dSS_e {I : TId} {G : TGd} {Te : TD} {vs : List Nat} : dSS I G Te vs Γ S Φ Ψ = I Γ S (fun S1 src => ∃ (ps : List (Int × Int)) (ds : List D), src S1 = some ds ∧ ds.length = ps.length ∧ ps.length < 64 ∧ (∀ p ∈ ps, 0 ≤ p.1 ∧ 0 ≤ p.2) ∧
  (∀ (i : Nat) (d : D) (p : Int × Int), ds[i]? = some d → ps[i]? = some p → G d (gwipe Γ vs) S1 fun Γ2 S2 => S2 = S1 ∧ Te Γ2 S1 (fun S3 z => S3 = S1 ∧ z = prD p) (fun _ _ => False)) ∧
  (∀ qs : List (Int × Int), (∀ p, p ∈ qs ↔ p ∈ ps) → qs.Pairwise ltP → Φ S1 (.lst (qs.map prD)))) Ψ := rfl
end
end DL
namespace DL
open PySem PySem.Spec PyProof.Rows L2
def dMulI (x y : D) (S : Sto) (Φ : KD) : Prop := ∃ i j, x = .int i ∧ y = .int j ∧ CMulA i j ∧ Φ S (.int (i * j))
section
variable {S : Sto} {Φ : KD}
theorem dMulI_i {i j : Int} : dMulI (.int i) (.int j) S Φ = (CMulA i j ∧ Φ S (.int (i * j))) := propext ⟨fun ⟨_, _, e1, e2, h⟩ => by cases e1; cases e2; exact h, fun h => ⟨_, _, rfl, rfl, h⟩⟩
end
end DL
namespace DL
open PySem PySem.Spec PyProof.Rows L2
def dST (T : TD) : TD := fun Γ S Φ Ψ => T Γ S (fun S1 d => ∃ ps : List (Int × Int), asQ S1 d = some (ps.map prD) ∧ ps.length < 64 ∧ (∀ p ∈ ps, 0 ≤ p.1 ∧ 0 ≤ p.2) ∧ ∀ qs : List (Int × Int), (∀ p, p ∈ qs ↔ p ∈ ps) → qs.Pairwise ltP → Φ S1 (.lst (qs.map prD))) Ψ
section
variable {Γ : Gam} {S : Sto} {Φ : KD} {Ψ : KX}
theorem dST_e {T : TD} : dST T Γ S Φ Ψ = T Γ S (fun S1 d => ∃ ps : List (Int × Int), asQ S1 d = some (ps.map prD) ∧ ps.length < 64 ∧ (∀ p ∈ ps, 0 ≤ p.1 ∧ 0 ≤ p.2) ∧ ∀ qs : List (Int × Int), (∀ p, p ∈ qs ↔ p ∈ ps) → qs.Pairwise ltP → Φ S1 (.lst (qs.map prD))) Ψ := rfl
end
end DL
namespace DL
open PySem PySem.Spec PyProof.Rows L2
/-- try: T / except of Cs: return d -/
def sTryC (Cs : List Addr) (d0 : D) (T : TSd) : TSd := fun E Γ S => T { nx := E.nx, rt := E.rt, er := fun S1 x => x.cls ∈ Cs ∧ E.rt S1 d0 } Γ S
theorem js_tryC {X : Cx} {W : WX} {x : Str} {c : Value} {Cs : List Addr} {d0 : D} {body : List Stmt} {eb : Expr} {tb : WX → List (Addr × Obj) → (Value → Shared → Prop) → TS} {te : TE} {Tb : TSd} {np p2 pos pos' : Pos} (hx : X.ex = []) (hs : X.stack = X.env :: X.outer) (hf : X.env.frame = some X.env.locals) (hc : Names X x c)
    (hm : ∀ C ∈ Cs, PySem.W.exmOne X.K (.ref C) c = some true) (hb : ∀ (W' : WX) (pn : List (Addr × Obj)) (xe : Value → Shared → Prop), Takes (X.tr pn xe) W' → JFB (X.tr pn xe) W' body (tb W' pn xe) Tb)
    (he : ∀ (a : Addr) (oe : Obj) (pn : List (Addr × Obj)), JE (X.suite a ((a, oe) :: pn)) wNo eb te (dC d0))
    (ee : ∀ W' pn xe, tb W' pn xe = tb W' [] (fun _ _ => True) := by intros; rfl) :
    JS X W (.Try body [.ExceptHandler (some (.Name x np)) none [.Return (some eb) p2] pos'] [] [] pos) (fun D σ H => tb (wOnly X.K c (fun _ _ _ => tRet te) wNo D) [] (fun _ _ => True) D σ H) (sTryC Cs d0 Tb) := by
  refine ⟨ps_try_only (tb := fun W' => tb W' [] (fun _ _ => True)) (ts := fun _ _ _ => tRet te) (Wout := wNo) hs hf hc ?_ (fun W' pn xe tk _ => ee W' pn xe ▸ (hb W' pn xe tk).pss) (fun a oe cls d pn _ _ => pss_one (ps_ret (he a oe pn).pe)), ?_⟩
  · rintro _ s1 ⟨a, B, sI, pins', σ1, H1, cls, d, rfl, J0, nb, up, sky, na, os, ag, z⟩
    exact z.elim
  intro E Γ S σ w D g sl h r
  refine (hb (wOnly X.K c (fun _ _ _ => tRet te) wNo D) [] (fun _ _ => True) fun _ _ _ => trivial).sem _ Γ S σ w D g sl h ⟨fun w1 S1 e1 g1 h1 => r.nx σ Γ w1 S1 e1 g1 (sl.ext e1) h1, r.rt, ?_⟩
  rintro cv dx ex w1 S1 e1 g1 rx ⟨hC, hrt⟩
  obtain ⟨rfl, rd⟩ := rx
  refine ⟨true, hm _ hC, fun _ a na => ?_, fun z => nomatch z⟩
  exact (he a default []).sem Γ S1 E.rt (fun _ _ => False) σ w1 g1 (sl.ext e1) hrt (fun _ _ _ _ _ _ _ _ z => z.elim) D.rt fun v d w2 S2 e2 g2 r2 h2 => r.rt v d w2 S2 (e1.trans e2) g2 r2 h2
theorem sTryC_e {Cs : List Addr} {d0 : D} {T : TSd} {E : EdD} {Γ : Gam} {S : Sto} : sTryC Cs d0 T E Γ S = T { nx := E.nx, rt := E.rt, er := fun S1 x => x.cls ∈ Cs ∧ E.rt S1 d0 } Γ S := rfl
end DL
namespace L2
open PySem PySem.Spec PyProof.Rows
abbrev bareSet (w : World) : Obj := { cls := .type "set", dict := none, data := .set #[] 0 (.fresh 0 0 (!w.params.followText "set-order")) }
section
variable {P : Program} {w : World} {A : Around} {E : Value → Shared → Prop} {s : Shared}
/-- the set of a list of whole numbers, with its table -/
theorem set_of_ints {l : Addr} {xs : Array Value} (ns : List Int) {Q : Value → Shared → Prop} (calm : A.handled = none) (isl : s.heap.IsList l xs) (are : IntsAre xs.toList ns) (room : ns.length + 1 < scanBound)
    (fin : ∀ (g : Heap) (tk c : Nat), SetR w g s.heap.objs.size (fun j => decide (j ∈ ns)) c → c ≤ ns.length → (∀ b o, s.heap.get? b = some o → g.get? b = some o) → Q (.ref s.heap.objs.size) { s with heap := g, toks := tk }) : wpAny (model P w) A (call (.type "set") [.ref l]) Q E s := by
  have hsz : xs.size = ns.length := Array.length_toList ▸ IntsAre.length are
  obtain ⟨c0, tl0, mro0⟩ := F.called_set.mro
  have made0 := F.called_set.made
  have sub0 := F.called_set.sub
  refine wpAny_call (codeAny_of_tree ?_)
  show wpAny _ _ (callAny (.type "set") _) _ _ _
  refine wpAny_pure ⟨Code.quiet_builtin _ (by decide +kernel), codeAny_builtin (F.entry_type_call) ?_⟩
  rw [Around.under_plain (weight_type_call_type "set" [Value.ref l] []) rfl]
  have nt0 := F.called_set.notType
  have cc0 := F.called_set.canCreate
  have tc0 := F.typeCall_set_1 (Value.ref l)
  repeat (any_goals (first | wp_step | assumption))
  refine codeAny_mono (code_set_led1 (.ref l) (E := E) (Q₁ := fun v t => v = .ref s.heap.objs.size ∧ t = { s with heap := s.heap.push (bareSet w) }) ⟨rfl, rfl⟩) fun r t hr => ?_
  cases r with
  | error _ => exact hr
  | ok fl =>
    cases fl with
    | ret v =>
      obtain ⟨rfl, rfl⟩ := hr
      have at0 : (s.heap.push (bareSet w)).get? s.heap.objs.size = some (bareSet w) := Heap.get?_push_size _ rfl
      have ty0 : Shared.TypeIs { s with heap := s.heap.push (bareSet w) } (.ref s.heap.objs.size) "set" := ⟨_, at0, rfl⟩
      have lk0 := F.called_set.init.lookup
      have bd0 := F.called_set.init.bind (.ref s.heap.objs.size)
      repeat (any_goals (first | wp_step | assumption))
      refine codeAny_mono (codeAny_call_builtin (R := wants (fun v t => v = .none ∧ ∃ g tk c, t = { s with heap := g, toks := tk } ∧ SetR w g s.heap.objs.size (fun j => decide (j ∈ ns)) c ∧ c ≤ ns.length ∧ (∀ b o, s.heap.get? b = some o → g.get? b = some o)) E) F.called_set.init.plain F.entry_set_init (check_set_init_1 ty0 ?_)) fun v2 t2 hv2 => ?_
      · obtain ⟨⟨kc, kd, kx, ks⟩, ho, hc, m, hd⟩ := isl
        simp only at hc hd
        subst hc; subst hd
        have ho1 : (s.heap.push (bareSet w)).get? l = some { cls := .type "list", dict := kd, data := .seq xs m, slots := ks } := Heap.get?_push_of_some _ ho
        have s1 := F.sub_list_set
        have s2 := F.sub_list_frozenset
        have s3 : (Value.type "list" == Value.type "dict") = false := rfl
        have isl1 : (s.heap.push (bareSet w)).IsList l xs := ⟨_, ho1, rfl, m, rfl⟩
        unfold Builtin.«set.__init__» noKeywords Builtin.Frozenset.updateFrom
        generalize hit : pyIter = it
        wp_walk
        subst hit
        refine wpAny_pyIter_list isl1 ?_
        refine wpAny_bind (wpAny_runValue ?_)
        have low : l < s.heap.objs.size := Heap.lt_size ho
        have calm3 : A.in1.in1.in1.handled = none := by simp [calm]
        have neI : l ≠ (s.heap.push (bareSet w)).objs.size := by
          rw [Heap.size_push]
          exact Nat.ne_of_lt (Nat.lt_succ_of_lt low)
        have notS : s.heap.objs.size ∉ [(s.heap.push (bareSet w)).objs.size, l] := by
          rw [Heap.size_push]
          simp only [List.mem_cons, List.mem_singleton, List.not_mem_nil, or_false, not_or]
          exact ⟨Nat.ne_of_lt (Nat.lt_succ_self _), Nat.ne_of_gt low⟩
        have val : ∀ (i : Nat) (v : Value), xs[i]? = some v → ∃ k t, ns[i]? = some k ∧ v = .int k t := fun i v hv => by
          have hi : i < ns.length := hsz ▸ (Array.getElem?_eq_some_iff.mp hv).1
          obtain ⟨t, e⟩ := IntsAre.int_at are i v (by rw [Array.getElem?_toList]; exact hv)
          rw [List.getD_eq_getElem?_getD, List.getElem?_eq_getElem hi] at e
          exact ⟨ns[i], t, List.getElem?_eq_getElem hi, e⟩
        refine set_update_ints ((Walks.list calm3 _ l neI xs).toS) s.heap.objs.size notS ns hsz room val (xs.size - 0) 0 _ (by omega) (Nat.zero_le _) ⟨⟨_, Heap.get?_push_size _ rfl, rfl, rfl⟩, isl1.push _⟩ ?start ?stop
        case start =>
          have at1 : ((s.heap.push (bareSet w)).push { cls := .type "list_iterator", data := .fields #[.ref l, .int 0 0] }).get? s.heap.objs.size = some (bareSet w) := Heap.get?_push_of_some _ at0
          exact ⟨0, Nat.le_refl 0, setR_new_at at1⟩
        case stop =>
          intro t c mv hc hS
          obtain ⟨g, g2, dr, tk, os2⟩ := t
          have q1 : g2 = s.gens := mv.gens
          have q2 : dr = s.drawn := mv.drawn
          have q3 : os2 = s.os := mv.os
          subst q1; subst q2; subst q3
          show wpAny _ _ _ _ _ _
          refine wpAny_pure ?_
          show wpAny _ _ (ret Value.none) _ _ _
          refine wpAny_pure ⟨rfl, g, tk, c, rfl, hS, hsz ▸ hc, fun b o ho2 => ?_⟩
          have hb := Heap.lt_size ho2
          refine mv.heap b o ?_ (Heap.get?_push_of_some _ (Heap.get?_push_of_some _ ho2))
          rw [Heap.size_push]
          simp only [List.mem_cons, List.mem_singleton, List.not_mem_nil, or_false, not_or]
          exact ⟨Nat.ne_of_lt hb, Nat.ne_of_lt (Nat.lt_succ_of_lt hb)⟩
      · cases v2 with
        | error _ => exact hv2
        | ok fl2 =>
          cases fl2 with
          | ret v =>
            obtain ⟨rfl, g, tk, c, rfl, hS, hc, hk⟩ := hv2
            repeat (any_goals (first | wp_step | assumption))
            exact fin g tk c hS hc hk
          | _ => exact hv2.elim
    | _ => exact hr.elim
end
section
variable {X : Cx}
/-- set(xs), xs a list of whole numbers -/
def rSetOfI (K : PySem.W.Frag) (w : World) : List V → Hp → VK → Prop := fun xs H Q => ∃ (l : Addr) (ns : List Int), xs = [V.ref l] ∧ SqL K H l (ns.map V.int) ∧ ns.length ≤ 4000 ∧ ∀ a (ks : List Int), H a = none → ks.Nodup → (∀ k, k ∈ ks ↔ k ∈ ns) → Q (.ref a) (upd H a (SetO w a (fun j => decide (j ∈ ns)) ks.length))
theorem cr_setOfI (hc : X.calm = true) : CallR X (.type "set") (rSetOfI X.K X.w) := by
  intro pins s σ H xs us Q I r ⟨l, ns, e, hl, hz, q⟩
  subst e
  rw [Vals.ref1 r]
  obtain ⟨its, rv, pl, _⟩ := I.list hl
  have hn : H s.heap.objs.size = none := I.hok.fresh (Nat.le_refl _)
  have hsb : ns.length + 1 < scanBound := by unfold scanBound; omega
  refine set_of_ints (P := X.prog) (w := X.w) ns (I.ok.hd hc) pl.isList (by simpa using ints_of_vals rv) hsb fun g tk c R hcl k => ?_
  obtain ⟨ks, kn, kl, km⟩ : ∃ ks : List Int, ks.Nodup ∧ ks.length = c ∧ ∀ k, k ∈ ks ↔ k ∈ ns := by
    obtain ⟨o, es, ep, t, _, _, _, _, nd, hm, _, _, hs, _⟩ := R
    exact ⟨es.toList.map keyOf, nd, by rw [List.length_map, Array.length_toList]; exact hs, fun k => by rw [← hm k]; exact decide_eq_true_iff⟩
  rw [← kl] at R
  exact ⟨.ref s.heap.objs.size, upd H s.heap.objs.size (SetO X.w s.heap.objs.size (fun j => decide (j ∈ ns)) ks.length), I.laid (t' := tk) k (Nat.le_refl _) (setO_new R), rfl, q _ ks hn kn km⟩
end
end L2
namespace DL
open PySem PySem.Spec PyProof.Rows L2
theorem nodup_few {α : Type} [DecidableEq α] : ∀ (as bs : List α), as.Nodup → (∀ a ∈ as, a ∈ bs) → as.length ≤ bs.length
  | [], _, _, _ => Nat.zero_le _
  | a :: as, bs, h, hs => by
    have ⟨n1, n2⟩ := List.nodup_cons.mp h
    have ha := hs a List.mem_cons_self
    have := nodup_few as (bs.erase a) n2 fun b hb => (List.mem_erase_of_ne fun (e : b = a) => n1 (e ▸ hb)).mpr (hs b (List.mem_cons_of_mem _ hb))
    have := List.length_erase_of_mem ha
    have := List.length_pos_of_mem ha
    show as.length + 1 ≤ bs.length
    omega
/-- sorted(set(xs)): all members, rising -/
def dSI (T : TD) : TD := fun Γ S Φ Ψ => T Γ S (fun S1 d => ∃ ns ms : List Int, asQ S1 d = some (ns.map D.int) ∧ ns.length ≤ 4000 ∧ ms.length < 64 ∧ (∀ k ∈ ns, k ∈ ms) ∧ ∀ qs : List Int, (∀ k, k ∈ qs ↔ k ∈ ns) → qs.Pairwise (· < ·) → Φ S1 (.lst (qs.map D.int))) Ψ
theorem ra_intsV {K : PySem.W.Frag} {w : Hs} : ∀ {ns : List Int} {vs : List V}, Ra K w vs (ns.map D.int) → vs = ns.map V.int
  | [], _, .nil => rfl
  | n :: ns, _, .cons r t => by
    cases r
    rw [ra_intsV t]
    rfl
theorem ra_intsD {K : PySem.W.Frag} {w : Hs} : ∀ ns : List Int, RpA K w.F w.al (ns.map V.int) (ns.map D.int)
  | [] => .nil
  | n :: ns => .cons (.int n) (ra_intsD ns)
theorem sem_si {K : PySem.W.Frag} {wd : World} {W : WX} {te : TE} {T : TD} (he : SemE K W te T) : SemE K W (tCB (rSortedSet wd) (tCons (tCB (rSetOfI K wd) (tCons te tNil)) tNil)) (dSI T) := fun Γ S Φ Ψ σ w g sl h hx Q q =>
  he Γ S _ _ σ w g sl h hx _ fun v d w1 S1 e1 g1 r1 ⟨ns, ms, ed, hf, hm, hs, hd⟩ => by
    obtain ⟨l, xs, rfl, hl, ra⟩ := asQ_at g1 r1 ed
    have ex := ra_intsV ra
    subst ex
    refine ⟨l, ns, rfl, hl, hf, fun a ks ha kn km => ?_⟩
    have hF := g1.notF ha
    have hA := g1.notA ha
    have e2 := (Ext.refl w1).at (SetO wd a (fun j => decide (j ∈ ns)) ks.length) ha
    refine ⟨a, _, ks.length, rfl, upd_same, Nat.lt_of_le_of_lt (nodup_few ks ms kn fun k hk => hs k ((km k).mp hk)) hm, fun qs p hr hq _ hp => ?_⟩
    have g2 := g1.at (SetO wd a (fun j => decide (j ∈ ns)) ks.length) hF hA
    have e3 := Ext.frz g2 (.lst (qs.map V.int)) hp
    exact q _ _ _ S1 ((e1.trans e2).trans e3) (g2.frz _ hp) (.lst upd_same (ra_intsD qs)) (hd qs (fun k => by rw [hq k]; exact decide_eq_true_iff) hr)
section
variable {X : Cx} {W : WX} {e : Expr} {te : TE} {T : TD} {p p2 spos pos : Pos}
theorem je_si (hc : X.calm = true) (hg : Gl X "sorted") (hm : X.mg "sorted" = none) (hg2 : Gl X "set") (hm2 : X.mg "set" = none) (he : JE X W e te T)
    (h1 : starEach [e] X.env = (false, eval e X.env) :: starEach [] X.env := by rfl) (h2 : starEach [Expr.Call (.Name "set" p2) [e] [] spos] X.env = (false, eval (Expr.Call (.Name "set" p2) [e] [] spos) X.env) :: starEach [] X.env := by rfl)
    (hv : bootBuiltins "sorted" = some (.builtin "sorted") := by first | rfl | decide +kernel) (hv2 : bootBuiltins "set" = some (.type "set") := by first | rfl | decide +kernel) :
    JE X W (.Call (.Name "sorted" p) [.Call (.Name "set" p2) [e] [] spos] [] pos) (tCB (rSortedSet X.w) (tCons (tCB (rSetOfI X.K X.w) (tCons te tNil)) tNil)) (dSI T) :=
  ⟨pe_callB (cr_sortedSet hc) hg hm hv (pa_cons (pe_callTy (cr_setOfI hc) hg2 hm2 hv2 (pa_cons he.pe pa_nil h1) (by decide) (by decide) h1 rfl) pa_nil h2) (by decide) (by decide) h2 rfl, sem_si he.sem⟩
end
section
variable {Γ : Gam} {S : Sto} {Φ : KD} {Ψ : KX}
theorem dSI_e {T : TD} : dSI T Γ S Φ Ψ = T Γ S (fun S1 d => ∃ ns ms : List Int, asQ S1 d = some (ns.map D.int) ∧ ns.length ≤ 4000 ∧ ms.length < 64 ∧ (∀ k ∈ ns, k ∈ ms) ∧ ∀ qs : List Int, (∀ k, k ∈ qs ↔ k ∈ ns) → qs.Pairwise (· < ·) → Φ S1 (.lst (qs.map D.int))) Ψ := rfl
end
end DL
namespace L2
open PySem PySem.Spec PyProof.Rows
end L2
namespace L2
open PySem PySem.Spec PyProof.Rows
end L2
namespace DL
open PySem PySem.Spec PyProof.Rows L2
section
variable {X : Cx} {es : List Expr}
def lsG (n : Nat) (T : TGs') : TGd := fun d Γ S P => ∃ ds, asQ S d = some ds ∧ ds.length = n ∧ T ds Γ S P
theorem lsG_e {n : Nat} {T : TGs'} {d : D} {Γ : Gam} {S : Sto} {P : Gam → Sto → Prop} : lsG n T d Γ S P = (∃ ds, asQ S d = some ds ∧ ds.length = n ∧ T ds Γ S P) := rfl
end
end DL
namespace DL
open PySem PySem.Spec PyProof.Rows L2
def dIsNB (x y : D) (S : Sto) (Φ : KD) : Prop := match x, y with
  | .bl a, .bl b => Φ S (.bl (!decide (a = b)))
  | _, _ => False
theorem dIsNB_b {a b : Bool} {S : Sto} {Φ : KD} : dIsNB (.bl a) (.bl b) S Φ = Φ S (.bl (!decide (a = b))) := rfl
end DL
namespace L2
open PySem PySem.Spec PyProof.Rows
section
variable {prog : Program} {w : World} {A : Around} {E : Value → Shared → Prop} {s : Shared} {T : String} {r d : Addr} {n : Nat} {P : Nat → Value → Prop} {OK : Heap → Prop}
theorem collect_kdl {Q : List Value → Shared → Prop} (K : PySem.W.KdlSrc prog w T r d n P OK) (hh : A.handled = none) (hok : OK s.heap) (hn : n ≤ sizeLine)
    (hQ : ∀ h' tk (acc : Array Value), (∀ b o, s.heap.get? b = some o → h'.get? b = some o) → s.heap.objs.size < h'.objs.size → ItemsOf P acc n → Q acc.toList { s with heap := h', toks := tk }) : wpAny (model prog w) A (collect (.ref r)) Q E s := by
  have hlt := K.there _ hok
  unfold collect
  refine wpAny_bind (wpAny_runValue (codeAny_builtin entry_proto_collect' ?_))
  have e1 : A.under (.builtin "proto.collect" ⟨[.ref r], []⟩) = A.in1 := Around.under_plainId F.plain_proto_collect _
  show wpAny _ _ (do again (.builtin "list.__iadd__" ⟨[← newList [], .ref r], []⟩)) _ _ s
  rw [e1]
  have hS : (s.heap.push (seqObj "list" #[] 0)).get? s.heap.objs.size = some (seqObj "list" #[] 0) := Heap.get?_push_size _ rfl
  refine wpAny_bind (wpAny_newList (wpAny_pure ⟨Code.quiet_builtin _ (by decide +kernel), codeAny_builtin entry_list_iadd' ?_⟩))
  have e2 : ∀ (B : Around) (x : Args), B.under (.builtin "list.__iadd__" x) = B.in1 := fun B x => Around.under_plainId F.plain_list_iadd _
  rw [e2]
  show wpAny _ _ (Builtin.List.listExtendWith (.ref s.heap.objs.size) (.ref r) (.ref s.heap.objs.size)) _ _ { s with heap := s.heap.push (seqObj "list" #[] 0) }
  have last : ∀ h' tk (acc' : Array Value) c', (∀ b o, b ≠ s.heap.objs.size → (s.heap.push (seqObj "list" #[] 0)).get? b = some o → h'.get? b = some o) → h'.get? s.heap.objs.size = some { cls := .type "list", dict := none, data := .seq acc' c', slots := #[] } → ItemsOf P acc' n →
      wpAny (model prog w) A (do
        let o ← load s.heap.objs.size
        match o.data with
        | .seq xs _ => pure xs.toList
        | _ => unsupported "internal:collect") Q E { s with heap := h', toks := tk } := fun h' tk acc' c' hk hS' hacc => by
    refine wpAny_bind (wpAny_load hS' ?_)
    exact wpAny_pure (hQ h' tk acc' (fun b o e => hk b o (Nat.ne_of_lt (Heap.lt_size e)) (Heap.get?_push_of_some _ e)) (Heap.lt_size hS') hacc)
  have run := PySem.W.kdl_extend (A := A) (s := { s with heap := s.heap.push (seqObj "list" #[] 0) }) (R := fun res s' => ∃ h' tk acc' c', res = .ok (.ret (.ref s.heap.objs.size)) ∧ s' = { s with heap := h', toks := tk } ∧ (∀ b o, b ≠ s.heap.objs.size → (s.heap.push (seqObj "list" #[] 0)).get? b = some o → h'.get? b = some o) ∧ h'.get? s.heap.objs.size = some { cls := .type "list", dict := none, data := .seq acc' c', slots := #[] } ∧ ItemsOf P acc' n)
    K hh (K.keep _ _ hok fun b _ o e => Heap.get?_push_of_some _ e) s.heap.objs.size (Nat.ne_of_gt hlt.1) (Nat.ne_of_gt hlt.2) (.ref s.heap.objs.size) 0 hS (fun h' tk acc' c' hk hS' hacc => ⟨h', tk, acc', c', rfl, rfl, hk, hS', hacc⟩) hn
  refine wpAny_mono run (fun fin s' hf => ?_) fun e s' he => ?_
  · cases fin with
    | done f =>
      obtain ⟨h', tk, acc', c', e, rfl, hk, hS', hacc⟩ := hf
      cases e
      exact last h' tk acc' c' hk hS' hacc
    | again c' =>
      refine ⟨hf.1, codeAny_mono hf.2 fun res s2 hr => ?_⟩
      obtain ⟨h', tk, acc', c', rfl, rfl, hk, hS', hacc⟩ := hr
      exact last h' tk acc' c' hk hS' hacc
  · obtain ⟨_, _, _, _, z, _⟩ := he
    cases z
open SrtO SrtR Srt in
theorem sorted_kdl {Q : Value → Shared → Prop} {b : Bool} {kw : List (Str × Value)} {ltv : Value → Value → Bool} (K : PySem.W.KdlSrc prog w T r d n P OK) (hh : A.handled = none) (hok : OK s.heap) (hn : n ≤ sizeLine)
    (hk : ∀ a, Builtin.«list.sort» ⟨[.ref a], kw⟩ = Builtin.«list.sort» ⟨[.ref a], [(Str.ofString "reverse", .bool b)]⟩) (ha1 : argsOk "sorted" ⟨[.ref r], kw⟩) (ha2 : ∀ a, argsOk "list.sort" ⟨[a], kw⟩) (O : Swo ltv)
    (hS : ∀ vs : List Value, ItemsOf P vs.toArray n → 2 ≤ vs.length → ∀ (s1 : Shared) (a : Addr), s1.heap.get? a = some (seqObj "list" vs.toArray 0) → SortableO prog w A.in1.in1 s1 a vs ltv)
    (h : ∀ (h' : Heap) tk (p : Addr) (vs out : List Value) (c : Nat), ItemsOf P vs.toArray n → (∀ b o, s.heap.get? b = some o → h'.get? b = some o) → s.heap.objs.size ≤ p → h'.get? p = some (seqObj "list" (if b = true then out.toArray.reverse else out.toArray) c) → Srtd ltv out → Stb ltv out (if b = true then vs.reverse else vs) → Q (.ref p) { s with heap := h', toks := tk }) :
    wpAny (model prog w) A (call (.builtin "sorted") [.ref r] kw) Q E s := by
  refine call_function_entry_kw kind_sorted plain_sorted entry_sorted ha1 ?_
  unfold Builtin.«sorted»
  refine wpAny_bind (m := checkCount "sorted" 1 1 _) (wpAny_pure ?_)
  refine wpAny_bind (collect_kdl (A := A.in1) K hh hok hn fun h1 tk acc k1 z1 items => ?_)
  have hz : acc.toList.length ≤ sizeLine := by rw [Array.length_toList, items.1]; exact hn
  refine wpAny_bind (wpAny_newList ?_ hz)
  have hoL : (h1.push (seqObj "list" acc.toList.toArray 0)).get? h1.objs.size = some (seqObj "list" acc.toList.toArray 0) := Heap.get?_push_size _ rfl
  have it2 : ItemsOf P acc.toList.toArray n := by rw [Array.toArray_toList]; exact items
  show wpAny _ _ _ _ _ { s with heap := h1.push (seqObj "list" acc.toList.toArray 0), toks := tk }
  refine wpAny_bind (wpAny_holding (wpAny_call_entry_kw slot_list_sort ⟨_, hoL, rfl⟩ entry_list_sort ?_ (ha2 _)))
  rw [hk]
  refine list_sort_ordR O hoL hz (fun h2 => hS _ it2 h2 _ _ hoL) fun out hs hb => ⟨_, rfl, ?_⟩
  obtain ⟨c, hc⟩ := sortedHeap_at (vs := acc.toList) (out := if b = true then out.toArray.reverse else out.toArray) hoL
  refine wpAny_pure ⟨_, rfl, h _ tk h1.objs.size acc.toList out c it2 (fun b' u e => ?_) (Nat.le_of_lt z1) hc hs hb⟩
  have q := k1 b' u e
  have hlt := Heap.lt_size q
  rw [sortedHeap_old (Nat.ne_of_lt hlt) (by rw [size_push']; exact Nat.lt_succ_of_lt hlt)]
  exact Heap.get?_push_of_some _ q
end
section
variable {X : Cx}
theorem keys_ints {P : Program} {w : World} {vs : List (Key × Value)} {is : List Int} (hk : vs.map (·.1) = is.map Sum.inl) {us : List Value} (h : ItemsOf (fun i v => ∃ k x, vs[i]? = some (k, x) ∧ (mixKind P w).is k v = true) us.toArray vs.length) : IntsAre us is := by
  have hl : vs.length = is.length := by
    have := congrArg List.length hk
    rwa [List.length_map, List.length_map] at this
  have at_ : ∀ (i : Nat) (u : Value), us[i]? = some u → ∃ k t, is[i]? = some k ∧ u = .int k t := fun i u hu => by
    obtain ⟨k, x, e, hy⟩ := h.2 i u (by simpa using hu)
    have e1 : (vs.map (·.1))[i]? = some k := by rw [List.getElem?_map, e]; rfl
    rw [hk, List.getElem?_map] at e1
    obtain ⟨j, hj, e2⟩ := Option.map_eq_some_iff.mp e1
    subst e2
    have hi : Value.isInt j u = true := hy
    obtain ⟨t, e3⟩ := Value.isInt_shape (k := j) (v := u) hi
    exact ⟨j, t, hj, e3⟩
  have hz : us.length = is.length := by
    have := h.1
    rw [List.size_toArray] at this
    omega
  clear h hk hl
  induction us generalizing is with
  | nil => cases is with
    | nil => exact .nil
    | cons a b => simp at hz
  | cons u us ih => cases is with
    | nil => simp at hz
    | cons a b =>
      obtain ⟨k, t, e, e2⟩ := at_ 0 u rfl
      cases e
      subst e2
      exact .cons _ _ (ih (fun i v hv => by simpa using at_ (i + 1) v (by simpa using hv)) (by simpa using hz))
/-- sorted(d, ..), d a dict whose keys are whole numbers -/
def rSortedDk (b : Bool) : List V → Hp → VK → Prop := fun vs H Q => ∃ (a : Addr) (kvs : List (Key × V)) (is : List Int), vs = [V.ref a] ∧ H a = some (.dK kvs) ∧ kvs.map (·.1) = is.map Sum.inl ∧
  ∀ (ns' : List Int) (p : Addr), ns'.Perm is → OrdB b ns' → H p = none → Q (.ref p) (upd H p (.lst (ns'.map V.int)))
theorem sortedDk_run {b : Bool} {kw : List (Str × Value)} {pins : List (Addr × Obj)} {s : Shared} {σ : St} {H : Hp} {a : Addr} {kvs : List (Key × V)} {is : List Int} {Q : VK} (hc : X.calm = true) (I : Inv X pins σ H s) (ha : H a = some (.dK kvs)) (hkv : kvs.map (·.1) = is.map Sum.inl)
    (hk : ∀ a, Builtin.«list.sort» ⟨[.ref a], kw⟩ = Builtin.«list.sort» ⟨[.ref a], [(Str.ofString "reverse", .bool b)]⟩) (ha1 : argsOk "sorted" ⟨[.ref a], kw⟩) (ha2 : ∀ a, argsOk "list.sort" ⟨[a], kw⟩)
    (q : ∀ (ns' : List Int) (p : Addr), ns'.Perm is → OrdB b ns' → H p = none → Q (.ref p) (upd H p (.lst (ns'.map V.int)))) : wpAny (model X.prog X.w) X.A (call (.builtin "sorted") [.ref a] kw) (EP X pins σ Q) X.xe s := by
  obtain ⟨hz, hs0, vs, kv, hdo⟩ := I.hok a _ ha
  obtain ⟨epo, hat⟩ := hdo.dictAt
  have lk : kvs.length = vs.length := Paired.length kv
  have hkeys : vs.map (·.1) = is.map Sum.inl := (KV.keys kv).symm.trans hkv
  refine sorted_kdl (n := vs.length) (PySem.W.kdl_dict (knd := mixKind X.prog X.w) hs0) (I.ok.hd hc) hat (lk ▸ hz) hk ha1 ha2 SrtO.swo_int (fun us hu h2 s1 a1 _ => SrtO.ints_sortable (keys_ints hkeys hu) h2) fun h' tk p us out c hu k1 hp he h1 h2 => ?_
  have hi := keys_ints hkeys hu
  obtain ⟨ns', i1, i2, i3⟩ := SrtR.ints_outR hi h1 h2
  have hlen : (ns'.map V.int).length ≤ sizeLine := by
    rw [List.length_map, i2.length_eq]
    have := congrArg List.length hkv
    rw [List.length_map, List.length_map] at this
    rw [← this]
    exact hz
  have e0 : ((if b = true then out.toArray.reverse else out.toArray).toList).toArray = (if b = true then out.toArray.reverse else out.toArray) := by rw [Array.toArray_toList]
  exact ⟨.ref p, upd H p (.lst (ns'.map V.int)), I.laid (t' := tk) k1 hp ⟨hlen, _, c, vals_of_ints i1, by rw [e0]; exact he⟩, rfl, q _ _ i2 i3 (I.hok.fresh hp)⟩
theorem sort_plain (a : Addr) : Builtin.«list.sort» ⟨[.ref a], []⟩ = Builtin.«list.sort» ⟨[.ref a], [(Str.ofString "reverse", .bool false)]⟩ := by
  rw [PyProof.Rows.list_sort_rev]
  first | rfl | kernel_rfl
theorem cr_sortedDk (hc : X.calm = true) : CallR X (.builtin "sorted") (rSortedDk false) := by
  intro pins s σ H vs us Q I r h
  obtain ⟨a, kvs, is, rfl, ha, hkv, q⟩ := h
  rw [Vals.ref1 r]
  exact sortedDk_run hc I ha hkv sort_plain (args_sorted1 _) (fun _ => args_list_sort _) q
theorem cr_sortedDkR (hc : X.calm = true) : CallRK X (.builtin "sorted") [Str.ofString "reverse"] (fun vs zs H Q => zs = [.bl true] ∧ rSortedDk true vs H Q) := by
  intro pins s σ H vs zs us ws Q I r rz h
  obtain ⟨rfl, a, kvs, is, rfl, ha, hkv, q⟩ := h
  obtain rfl := Vals.ref1 r
  obtain ⟨w1, rfl, e1⟩ := vals1 rz
  obtain rfl : w1 = Value.bool true := e1
  exact sortedDk_run hc I ha hkv (fun _ => rfl) (PyProof.Rows.args_sorted_rev _ _) (fun _ => PyProof.Rows.args_list_sort_rev _ _) q
end
end L2
namespace DL
open PySem PySem.Spec PyProof.Rows L2
theorem RpK.fsts {K : PySem.W.Frag} {F : Hp} {al : List Addr} : ∀ {us : List (Key × V)} {ks : List (Key × D)}, RpK K F al us ks → us.map (·.1) = ks.map (·.1)
  | [], [], .nil => rfl
  | (n, v) :: us, (_, d) :: ks, .cons _ t => by
    show n :: us.map (·.1) = n :: ks.map (·.1)
    rw [RpK.fsts t]
/-- sorted(d), sorted(d, reverse=True): the keys, whole numbers -/
def dSD (b : Bool) (T : TD) : TD := fun Γ S Φ Ψ => T Γ S (fun S1 d => ∃ h ks, ∃ is : List Int, d = .own h ∧ S1[h]? = some (.dck ks) ∧ ks.map (·.1) = is.map Sum.inl ∧ ∀ qs : List Int, qs.Perm is → OrdB b qs → Φ S1 (.lst (qs.map D.int))) Ψ
theorem sem_sd {K : PySem.W.Frag} {W : WX} {te : TE} {T : TD} (b : Bool) (he : SemE K W te T) {Γ : Gam} {S : Sto} {Φ : KD} {Ψ : KX} {σ : L2.St} {w : Hs} (g : Good K w S) (sl : Slots K w σ Γ) (h : dSD b T Γ S Φ Ψ) (hx : OkX K W w Ψ σ) {Q : VK} (q : OkD K w Φ Q) : te σ w.H fun x H1 => rSortedDk b [x] H1 Q :=
  he Γ S _ _ σ w g sl h hx _ fun v d w1 S1 e1 g1 r1 ⟨hh, ks, is, ed, es, hk, hd⟩ => by
    subst ed
    obtain ⟨a, us, rfl, hal, hF, hH, rt⟩ := dck_at g1 r1 es
    refine ⟨a, us, is, rfl, hH, rt.fsts.trans hk, fun qs p hp ho hn => ?_⟩
    have e3 := Ext.frz g1 (.lst (qs.map V.int)) hn
    exact q _ _ _ S1 (e1.trans e3) (g1.frz _ hn) (.lst upd_same (ra_intsD qs)) (hd qs hp ho)
section
variable {X : Cx} {W : WX} {e : Expr} {te : TE} {T : TD} {p pos kpos : Pos}
theorem je_sd (hc : X.calm = true) (hg : Gl X "sorted") (hm : X.mg "sorted" = none) (he : JE X W e te T) (h1 : starEach [e] X.env = (false, eval e X.env) :: starEach [] X.env := by rfl) (hv : bootBuiltins "sorted" = some (.builtin "sorted") := by first | rfl | decide +kernel) :
    JE X W (.Call (.Name "sorted" p) [e] [] pos) (tCB (rSortedDk false) (tCons te tNil)) (dSD false T) :=
  ⟨pe_callB (cr_sortedDk hc) hg hm hv (pa_cons he.pe pa_nil h1) (by decide) (by decide) h1 rfl, fun Γ S Φ Ψ σ w g sl h hx Q q => sem_sd false he.sem g sl h hx q⟩
theorem je_sdR {kc : Expr} (hc : X.calm = true) (hg : Gl X "sorted") (hm : X.mg "sorted" = none) (he : JE X W e te T) (hk : PK X [⟨some (Str.ofString "reverse"), kc, kpos⟩] (tCons (tC (.bl true)) tNil))
    (h1 : backTo pos (starEach [e] X.env) = (false, eval e X.env) :: backTo pos (starEach [] X.env) := by rfl) (h2 : starEach [e] X.env = (false, eval e X.env) :: starEach [] X.env := by rfl)
    (hpl : (backTo pos (starEach [e] X.env)).any (·.1) = false := by rfl) (hall : (backToKw pos (keywordEach [⟨some (Str.ofString "reverse"), kc, kpos⟩] X.env)).all (·.1.isSome) = true := by rfl)
    (hnone : (backToKw pos (keywordEach [⟨some (Str.ofString "reverse"), kc, kpos⟩] X.env)).any (·.1.isNone) = false := by rfl) (hks : (backToKw pos (keywordEach [⟨some (Str.ofString "reverse"), kc, kpos⟩] X.env)).filterMap (·.1) = [Str.ofString "reverse"] := by rfl)
    (hv : bootBuiltins "sorted" = some (.builtin "sorted") := by first | rfl | decide +kernel) :
    JE X W (.Call (.Name "sorted" p) [e] [⟨some (Str.ofString "reverse"), kc, kpos⟩] pos) (tCKw (fun vs zs H Q => zs = [.bl true] ∧ rSortedDk true vs H Q) (tCons te tNil) (tCons (tC (.bl true)) tNil)) (dSD true T) :=
  ⟨pe_callBK (cr_sortedDkR hc) hg hm hv (pa_cons he.pe pa_nil h2) hk (by decide) (by decide) h1 hpl hall hnone hks, fun Γ S Φ Ψ σ w g sl h hx Q q =>
    he.sem Γ S _ _ σ w g sl h hx _ fun v d w1 S1 e1 g1 r1 ⟨hh, ks, is, ed, es, hk, hd⟩ => by
      subst ed
      obtain ⟨a, us, rfl, hal, hF, hH, rt⟩ := dck_at g1 r1 es
      refine ⟨rfl, a, us, is, rfl, hH, rt.fsts.trans hk, fun qs p hp ho hn => ?_⟩
      have e3 := Ext.frz g1 (.lst (qs.map V.int)) hn
      exact q _ _ _ S1 (e1.trans e3) (g1.frz _ hn) (.lst upd_same (ra_intsD qs)) (hd qs hp ho)⟩
end
section
variable {Γ : Gam} {S : Sto} {Φ : KD} {Ψ : KX}
theorem dSD_e {b : Bool} {T : TD} : dSD b T Γ S Φ Ψ = T Γ S (fun S1 d => ∃ h ks, ∃ is : List Int, d = .own h ∧ S1[h]? = some (.dck ks) ∧ ks.map (·.1) = is.map Sum.inl ∧ ∀ qs : List Int, qs.Perm is → OrdB b qs → Φ S1 (.lst (qs.map D.int))) Ψ := rfl
end
end DL
namespace DL
open PySem PySem.Spec PyProof.Rows L2
def cSortI (ds : List D) (S : Sto) (Φ : KD) : Prop := match ds with
  | [d] => ∃ ns : List Int, asQ S d = some (ns.map D.int) ∧ ∀ qs : List Int, qs.Perm ns → qs.Pairwise (· ≤ ·) → Φ S (.lst (qs.map D.int))
  | _ => False
theorem cd_sortI {K : PySem.W.Frag} : CallD K (rSortedI K) cSortI := fun w S vs ds Φ Q g r h q => by
  cases ds with
  | nil => exact h.elim
  | cons d t =>
    cases t with
    | cons _ _ => exact h.elim
    | nil =>
      obtain ⟨ns, e, h⟩ := h
      obtain ⟨v, rfl, r1⟩ := one_of r
      obtain ⟨a, ys, rfl, hs, ra⟩ := asQ_at g r1 e
      have ey := ra_intsV ra
      subst ey
      exact ⟨a, ns, rfl, hs, fun qs p hp ho hn => new_lst g q (ra_intsD qs) (h qs hp ho) p hn⟩
end DL
namespace DL
open PySem PySem.Spec PyProof.Rows L2
def top (i : Nat) : Stmt := PySem.Challenge.pw_runtabs_k26_widths_for_letters.main.body.getD i (.Pass ⟨0, 0, 0, 0⟩)
abbrev s_is_integer : Stmt := (top 9)
abbrev s_is_cell : Stmt := (top 10)
abbrev s_is_line : Stmt := (top 15)
abbrev s_is_table : Stmt := (top 16)
abbrev s_need_table : Stmt := (top 17)
abbrev s_tabs_in : Stmt := (top 18)
abbrev s_blocks_of_column : Stmt := (top 20)
abbrev s_blocks_by_tabs : Stmt := (top 21)
abbrev s_blocks_in : Stmt := (top 22)
abbrev s_greatest_in : Stmt := (top 24)
abbrev s_room_of : Stmt := (top 25)
abbrev s_rooms_in : Stmt := (top 26)
abbrev s_stops_in : Stmt := (top 27)
abbrev s_ends_in : Stmt := (top 28)
abbrev s_bottom_of : Stmt := (top 30)
abbrev s_block_steps : Stmt := (top 31)
abbrev s_merged_steps : Stmt := (top 32)
abbrev s_summed_curve : Stmt := (top 33)
abbrev s_run_end : Stmt := (top 34)
abbrev s_lines_curve : Stmt := (top 35)
abbrev s_page_curve : Stmt := (top 36)
abbrev s_narrowest : Stmt := (top 37)
abbrev s_slopes : Stmt := (top 38)
abbrev s_width_for : Stmt := (top 39)
abbrev s_are_kinds : Stmt := (top 42)
abbrev s_Style___init__ : Stmt := (inClass (top 43) 0)
abbrev s_Style_of : Stmt := (inClass (top 43) 1)
abbrev s_Style_gap : Stmt := (inClass (top 43) 3)
abbrev s_Style_least : Stmt := (inClass (top 43) 4)
abbrev s__law_source : Stmt := (top 45)
abbrev s__law_pick : Stmt := (top 46)
abbrev s__law_look : Stmt := (top 47)
abbrev s__law_named : Stmt := (top 48)
abbrev s__law_grid : Stmt := (top 49)
abbrev s__law_span : Stmt := (top 50)
abbrev s__law_ends : Stmt := (top 51)
abbrev s__law_grown : Stmt := (top 52)
abbrev s__law_sizes : Stmt := (top 53)
abbrev s__law_sum : Stmt := (top 54)
abbrev s__law_refused : Stmt := (top 55)
abbrev s__law_right : Stmt := (top 56)
abbrev s_law : Stmt := (top 57)
def dd_is_integer : He5.DefA := ⟨(fun K => He.ga K "is_integer"), "is_integer", "is_integer", defArgs s_is_integer, defBody s_is_integer, defScope s_is_integer, [], []⟩
def dd_is_cell : He5.DefA := ⟨(fun K => He.ga K "is_cell"), "is_cell", "is_cell", defArgs s_is_cell, defBody s_is_cell, defScope s_is_cell, [], []⟩
def dd_is_line : He5.DefA := ⟨(fun K => He.ga K "is_line"), "is_line", "is_line", defArgs s_is_line, defBody s_is_line, defScope s_is_line, [], []⟩
def dd_is_table : He5.DefA := ⟨(fun K => He.ga K "is_table"), "is_table", "is_table", defArgs s_is_table, defBody s_is_table, defScope s_is_table, [], []⟩
def dd_need_table : He5.DefA := ⟨(fun K => He.ga K "need_table"), "need_table", "need_table", defArgs s_need_table, defBody s_need_table, defScope s_need_table, [], []⟩
def dd_tabs_in : He5.DefA := ⟨(fun K => He.ga K "tabs_in"), "tabs_in", "tabs_in", defArgs s_tabs_in, defBody s_tabs_in, defScope s_tabs_in, [], []⟩
def dd_blocks_of_column : He5.DefA := ⟨(fun K => He.ga K "blocks_of_column"), "blocks_of_column", "blocks_of_column", defArgs s_blocks_of_column, defBody s_blocks_of_column, defScope s_blocks_of_column, [], []⟩
def dd_blocks_by_tabs : He5.DefA := ⟨(fun K => He.ga K "blocks_by_tabs"), "blocks_by_tabs", "blocks_by_tabs", defArgs s_blocks_by_tabs, defBody s_blocks_by_tabs, defScope s_blocks_by_tabs, [], []⟩
def dd_blocks_in : He5.DefA := ⟨(fun K => He.ga K "blocks_in"), "blocks_in", "blocks_in", defArgs s_blocks_in, defBody s_blocks_in, defScope s_blocks_in, [], []⟩
def dd_greatest_in : He5.DefA := ⟨(fun K => He.ga K "greatest_in"), "greatest_in", "greatest_in", defArgs s_greatest_in, defBody s_greatest_in, defScope s_greatest_in, [], []⟩
def dd_room_of : He5.DefA := ⟨(fun K => He.ga K "room_of"), "room_of", "room_of", defArgs s_room_of, defBody s_room_of, defScope s_room_of, [], []⟩
def dd_rooms_in : He5.DefA := ⟨(fun K => He.ga K "rooms_in"), "rooms_in", "rooms_in", defArgs s_rooms_in, defBody s_rooms_in, defScope s_rooms_in, [], []⟩
def dd_stops_in : He5.DefA := ⟨(fun K => He.ga K "stops_in"), "stops_in", "stops_in", defArgs s_stops_in, defBody s_stops_in, defScope s_stops_in, [], []⟩
def dd_ends_in : He5.DefA := ⟨(fun K => He.ga K "ends_in"), "ends_in", "ends_in", defArgs s_ends_in, defBody s_ends_in, defScope s_ends_in, [], []⟩
def dd_bottom_of : He5.DefA := ⟨(fun K => He.ga K "bottom_of"), "bottom_of", "bottom_of", defArgs s_bottom_of, defBody s_bottom_of, defScope s_bottom_of, [], []⟩
def dd_block_steps : He5.DefA := ⟨(fun K => He.ga K "block_steps"), "block_steps", "block_steps", defArgs s_block_steps, defBody s_block_steps, defScope s_block_steps, [], []⟩
def dd_merged_steps : He5.DefA := ⟨(fun K => He.ga K "merged_steps"), "merged_steps", "merged_steps", defArgs s_merged_steps, defBody s_merged_steps, defScope s_merged_steps, [], []⟩
def dd_summed_curve : He5.DefA := ⟨(fun K => He.ga K "summed_curve"), "summed_curve", "summed_curve", defArgs s_summed_curve, defBody s_summed_curve, defScope s_summed_curve, [], []⟩
def dd_run_end : He5.DefA := ⟨(fun K => He.ga K "run_end"), "run_end", "run_end", defArgs s_run_end, defBody s_run_end, defScope s_run_end, [], []⟩
def dd_lines_curve : He5.DefA := ⟨(fun K => He.ga K "lines_curve"), "lines_curve", "lines_curve", defArgs s_lines_curve, defBody s_lines_curve, defScope s_lines_curve, [], []⟩
def dd_page_curve : He5.DefA := ⟨(fun K => He.ga K "page_curve"), "page_curve", "page_curve", defArgs s_page_curve, defBody s_page_curve, defScope s_page_curve, [], []⟩
def dd_narrowest : He5.DefA := ⟨(fun K => He.ga K "narrowest"), "narrowest", "narrowest", defArgs s_narrowest, defBody s_narrowest, defScope s_narrowest, [], []⟩
def dd_slopes : He5.DefA := ⟨(fun K => He.ga K "slopes"), "slopes", "slopes", defArgs s_slopes, defBody s_slopes, defScope s_slopes, [], []⟩
def dd_width_for : He5.DefA := ⟨(fun K => He.ga K "width_for"), "width_for", "width_for", defArgs s_width_for, defBody s_width_for, defScope s_width_for, [], []⟩
def dd_are_kinds : He5.DefA := ⟨(fun K => He.ga K "are_kinds"), "are_kinds", "are_kinds", defArgs s_are_kinds, defBody s_are_kinds, defScope s_are_kinds, [], []⟩
def dd_Style___init__ : He5.DefA := ⟨(fun K => He.ma K (He.ga K "Style") "__init__"), "__init__", "Style.__init__", defArgs s_Style___init__, defBody s_Style___init__, defScope s_Style___init__, [], [("gap", .int 1), ("least", .int 0)]⟩
def dd_Style_of : He5.DefA := ⟨(fun K => He5.wf K (He.ga K "Style") "classmethod" "of"), "of", "Style.of", defArgs s_Style_of, defBody s_Style_of, defScope s_Style_of, [], []⟩
def dd_Style_gap : He5.DefA := ⟨(fun K => He5.wf K (He.ga K "Style") "property" "gap"), "gap", "Style.gap", defArgs s_Style_gap, defBody s_Style_gap, defScope s_Style_gap, [], []⟩
def dd_Style_least : He5.DefA := ⟨(fun K => He5.wf K (He.ga K "Style") "property" "least"), "least", "Style.least", defArgs s_Style_least, defBody s_Style_least, defScope s_Style_least, [], []⟩
def dd__law_source : He5.DefA := ⟨(fun K => He.ga K "_law_source"), "_law_source", "_law_source", defArgs s__law_source, defBody s__law_source, defScope s__law_source, [], []⟩
def dd__law_pick : He5.DefA := ⟨(fun K => He.ga K "_law_pick"), "_law_pick", "_law_pick", defArgs s__law_pick, defBody s__law_pick, defScope s__law_pick, [], []⟩
def dd__law_look : He5.DefA := ⟨(fun K => He.ga K "_law_look"), "_law_look", "_law_look", defArgs s__law_look, defBody s__law_look, defScope s__law_look, [], []⟩
def dd__law_named : He5.DefA := ⟨(fun K => He.ga K "_law_named"), "_law_named", "_law_named", defArgs s__law_named, defBody s__law_named, defScope s__law_named, [], []⟩
def dd__law_grid : He5.DefA := ⟨(fun K => He.ga K "_law_grid"), "_law_grid", "_law_grid", defArgs s__law_grid, defBody s__law_grid, defScope s__law_grid, [], []⟩
def dd__law_span : He5.DefA := ⟨(fun K => He.ga K "_law_span"), "_law_span", "_law_span", defArgs s__law_span, defBody s__law_span, defScope s__law_span, [], []⟩
def dd__law_ends : He5.DefA := ⟨(fun K => He.ga K "_law_ends"), "_law_ends", "_law_ends", defArgs s__law_ends, defBody s__law_ends, defScope s__law_ends, [], []⟩
def dd__law_grown : He5.DefA := ⟨(fun K => He.ga K "_law_grown"), "_law_grown", "_law_grown", defArgs s__law_grown, defBody s__law_grown, defScope s__law_grown, [], []⟩
def dd__law_sizes : He5.DefA := ⟨(fun K => He.ga K "_law_sizes"), "_law_sizes", "_law_sizes", defArgs s__law_sizes, defBody s__law_sizes, defScope s__law_sizes, [], []⟩
def dd__law_sum : He5.DefA := ⟨(fun K => He.ga K "_law_sum"), "_law_sum", "_law_sum", defArgs s__law_sum, defBody s__law_sum, defScope s__law_sum, [], []⟩
def dd__law_refused : He5.DefA := ⟨(fun K => He.ga K "_law_refused"), "_law_refused", "_law_refused", defArgs s__law_refused, defBody s__law_refused, defScope s__law_refused, [], []⟩
def dd__law_right : He5.DefA := ⟨(fun K => He.ga K "_law_right"), "_law_right", "_law_right", defArgs s__law_right, defBody s__law_right, defScope s__law_right, [], []⟩
def dd_law : He5.DefA := ⟨(fun K => He.ga K "law"), "law", "law", defArgs s_law, defBody s_law, defScope s_law, [], []⟩
def fnL : List He5.DefA := (([dd_is_integer, dd_is_cell, dd_is_line, dd_is_table, dd_need_table, dd_tabs_in, dd_blocks_of_column, dd_blocks_by_tabs, dd_blocks_in, dd_greatest_in, dd_room_of, dd_rooms_in, dd_stops_in, dd_ends_in, dd_bottom_of, dd_block_steps, dd_merged_steps, dd_summed_curve, dd_run_end, dd_lines_curve] : List He5.DefA) ++ ([dd_page_curve, dd_narrowest, dd_slopes, dd_width_for, dd_are_kinds, dd_Style___init__, dd_Style_of, dd_Style_gap, dd_Style_least, dd__law_source, dd__law_pick, dd__law_look, dd__law_named, dd__law_grid, dd__law_span, dd__law_ends, dd__law_grown, dd__law_sizes, dd__law_sum, dd__law_refused] : List He5.DefA) ++ ([dd__law_right, dd_law] : List He5.DefA))
def faL : List FaX := (([(fun K => (He.Fa.glo "is_integer").ok K), (fun K => (He.Fa.glo "is_cell").ok K), (fun K => (He.Fa.glo "is_line").ok K), (fun K => (He.Fa.glo "is_table").ok K), (fun K => (He.Fa.glo "need_table").ok K), (fun K => (He.Fa.glo "tabs_in").ok K), (fun K => (He.Fa.glo "blocks_of_column").ok K), (fun K => (He.Fa.glo "blocks_by_tabs").ok K), (fun K => (He.Fa.glo "blocks_in").ok K), (fun K => (He.Fa.glo "greatest_in").ok K), (fun K => (He.Fa.glo "room_of").ok K), (fun K => (He.Fa.glo "rooms_in").ok K), (fun K => (He.Fa.glo "stops_in").ok K), (fun K => (He.Fa.glo "ends_in").ok K), (fun K => (He.Fa.glo "bottom_of").ok K), (fun K => (He.Fa.glo "block_steps").ok K), (fun K => (He.Fa.glo "merged_steps").ok K), (fun K => (He.Fa.glo "summed_curve").ok K), (fun K => (He.Fa.glo "run_end").ok K), (fun K => (He.Fa.glo "lines_curve").ok K)] : List FaX) ++ ([(fun K => (He.Fa.glo "page_curve").ok K), (fun K => (He.Fa.glo "narrowest").ok K), (fun K => (He.Fa.glo "slopes").ok K), (fun K => (He.Fa.glo "width_for").ok K), (fun K => (He.Fa.glo "are_kinds").ok K), (fun K => (He.Fa.glo "_law_source").ok K), (fun K => (He.Fa.glo "_law_pick").ok K), (fun K => (He.Fa.glo "_law_look").ok K), (fun K => (He.Fa.glo "_law_named").ok K), (fun K => (He.Fa.glo "_law_grid").ok K), (fun K => (He.Fa.glo "_law_span").ok K), (fun K => (He.Fa.glo "_law_ends").ok K), (fun K => (He.Fa.glo "_law_grown").ok K), (fun K => (He.Fa.glo "_law_sizes").ok K), (fun K => (He.Fa.glo "_law_sum").ok K), (fun K => (He.Fa.glo "_law_refused").ok K), (fun K => (He.Fa.glo "_law_right").ok K), (fun K => (He.Fa.glo "law").ok K), (fun K => (He.Fa.free "int").ok K), (fun K => (He.Fa.free "isinstance").ok K)] : List FaX) ++ ([(fun K => (He.Fa.free "bool").ok K), (fun K => (He.Fa.int "MOST_CELL" 1000000000000000000000000000000).ok K), (fun K => (He.Fa.free "list").ok K), (fun K => (He.Fa.free "len").ok K), (fun K => (He.Fa.int "MOST_CELLS" 12).ok K), (fun K => (He.Fa.free "all").ok K), (fun K => (He.Fa.int "MOST_LINES" 60).ok K), (fun K => (He.Fa.glo "InvalidTable").ok K), (fun K => (He.Fa.exc "InvalidTable").ok K), (fun K => (He.Fa.free "enumerate").ok K), (fun K => (He.Fa.free "range").ok K), (fun K => (He.Fa.free "max").ok K), (fun K => (He.Fa.cls "Style").ok K), (bProp "Style" "least"), (bProp "Style" "gap"), (fun K => (He.Fa.free "zip").ok K), (fun K => (He.Fa.free "sum").ok K), (fun K => (He.Fa.free "sorted").ok K), (fun K => (He.Fa.free "set").ok K), (fun K => (He.Fa.glo "InvalidNumber").ok K)] : List FaX) ++ ([(fun K => (He.Fa.exc "InvalidNumber").ok K), (fun K => (He.Fa.free "min").ok K), (fun K => (He.Fa.int "MOST_KINDS" 12).ok K), (fun K => (He.Fa.free "str").ok K), (fun K => (He.Fa.glo "Kind").ok K), (bCVT "Kind" "NAMES" ["left", "right", "center"]), (fun K => (He.Fa.str "LEFT" "left").ok K), (fun K => (He.Fa.glo "InvalidStyle").ok K), (fun K => (He.Fa.exc "InvalidStyle").ok K), (fun K => (He.Fa.noat "Style" "held_kinds").ok K), (fun K => (He.Fa.noat "Style" "held_gap").ok K), (fun K => (He.Fa.noat "Style" "held_least").ok K), (fun K => (He.Fa.mkr "Style").ok K), (fun K => (He.Fa.free "abs").ok K), (fun K => (He.Fa.glo "Style").ok K), (bCRd "Style"), (bCMet "Style" "of"), (bExm "InvalidNumber" "InvalidNumber")] : List FaX))
abbrev RR : PySem.W.OpenRow := PySem.W.OpenLaw.row PySem.Challenge.rw_runtabs_k26_widths_for_letters
abbrev hkL : PySem.W.Hook := hookX 7 faL fnL
def obL (s : PySem.W.SharedT) : He.AlD := obsXG 7 faL fnL (HandSHeadRun.getT s)
theorem obL_eq (s : PySem.W.SharedT) : obL s = hkL.obs s.abs := obsXG_eq (HandSHeadRun.getT_eq s)
def othersL : List Str := ((["_wall", "PageError", "InvalidTable", "InvalidStyle", "InvalidNumber", "MOST_CELL", "LEFT", "is_integer", "is_cell", "Kind", "MOST_LINES", "MOST_CELLS", "is_line", "is_table", "need_table", "tabs_in", "blocks_of_column", "blocks_by_tabs", "blocks_in", "greatest_in"] : List Str) ++ (["room_of", "rooms_in", "stops_in", "ends_in", "bottom_of", "block_steps", "merged_steps", "summed_curve", "run_end", "lines_curve", "page_curve", "narrowest", "slopes", "width_for", "MOST_KINDS", "are_kinds", "Style", "_law_source", "_law_pick", "_law_look"] : List Str) ++ (["_law_named", "_law_grid", "_law_span", "_law_ends", "_law_grown", "_law_sizes", "_law_sum", "_law_refused", "_law_right"] : List Str))
theorem runL (w : World) : HandSHeadRun.RunEq RR (PySem.W.view RR.prog [57]) hkL obL 8000 othersL w := by
  intro os
  kernel_rfl
end DL
namespace DL
open PySem PySem.Spec PyProof.Rows L2
abbrev GREAT : Int := 1000000000000000000000000000000
abbrev kindsL : List Str := ["left", "right", "center"]
def inB (v lo hi : Int) : Bool := decide (lo ≤ v) && decide (v ≤ hi)
structure LookOk (ks : List Str) (g l : Int) : Prop where
  lo : 1 ≤ ks.length
  hi : ks.length ≤ 12
  at_ : ∀ k ∈ ks, k ∈ kindsL
  g0 : 0 ≤ g
  g1 : g ≤ GREAT
  l0 : 0 ≤ l
  l1 : l ≤ GREAT
def styF (ks : List Str) (g l : Int) : List (Str × D) := [("held_kinds", .lst (ks.map D.str)), ("held_gap", .int g), ("held_least", .int l)]
def sp_is_integer : DSpec := fun ds S Φ _ => ∃ v lo hi, ds = [.int v, .int lo, .int hi] ∧ Φ S (.bl (inB v lo hi))
def sp_is_cell : DSpec := fun ds S Φ _ => ∃ v, ds = [.int v] ∧ Φ S (.bl (inB v 0 GREAT))
def sp_are_kinds : DSpec := fun ds S Φ _ => ∃ ks : List Str, ds = [.lst (ks.map D.str)] ∧ 1 ≤ ks.length ∧ ks.length ≤ 12 ∧ (∀ k ∈ ks, k ∈ kindsL) ∧ Φ S (.bl true)
def kindsOr (ks : List Str) : List Str := if ks = [] then ["left"] else ks
def sp_Style___init__ (C : Addr) : DSpec := fun ds S Φ _ => ∃ h ks g l, ds = [.own h, .int g, .int l, .tup (ks.map D.str)] ∧ S[h]? = some (.ins C []) ∧ LookOk (kindsOr ks) g l ∧ Φ (S.set h (.ins C (styF (kindsOr ks) g l))) .non
def sp_Style_of (C : Addr) : DSpec := fun ds S Φ _ => ∃ ks g l, ds = [.obj C, .lst (ks.map D.str), .int g, .int l] ∧ LookOk ks g l ∧ Φ (S ++ [.ins C (styF ks g l)]) (.own S.length)
def sp_Style_gap (C : Addr) : DSpec := fun ds S Φ _ => ∃ d ks g l, ds = [d] ∧ asI S d = some (C, styF ks g l) ∧ Φ S (.int g)
def sp_Style_least (C : Addr) : DSpec := fun ds S Φ _ => ∃ d ks g l, ds = [d] ∧ asI S d = some (C, styF ks g l) ∧ Φ S (.int l)
structure RowOk (r : List Int) : Prop where
  lo : 1 ≤ r.length
  hi : r.length ≤ 12
  at_ : ∀ x ∈ r, 0 ≤ x ∧ x ≤ GREAT
structure TabOk (t : List (List Int)) : Prop where
  lo : 1 ≤ t.length
  hi : t.length ≤ 60
  row : ∀ r ∈ t, RowOk r
def sp_is_line : DSpec := fun ds S Φ _ => ∃ d r, ds = [d] ∧ asL S d = some (r.map D.int) ∧ RowOk r ∧ Φ S (.bl true)
def sp_is_table : DSpec := fun ds S Φ _ => ∃ d t, ds = [d] ∧ TabS S d t ∧ TabOk t ∧ Φ S (.bl true)
def sp_need_table : DSpec := fun ds S Φ _ => ∃ d t, ds = [d] ∧ TabS S d t ∧ TabOk t ∧ Φ S .non
def ownsD (n m : Nat) : List D := (List.range m).map fun j => D.own (n + j)
def cellsD (t : List (List Int)) : Sto := t.map fun r => Cell.lst (r.map D.int)
def newTab (t : List (List Int)) (S : Sto) (Φ : KD) : Prop := Φ (S ++ cellsD t ++ [.lst (ownsD S.length t.length)]) (.own (S.length + t.length))
/-- the greatest cell of a leading run, at least `least` -/
def runM (least : Int) : List (Option Int) → Int
  | some v :: r => max v (runM least r)
  | _ => least
def roomAt (least : Int) (xs : List (Option Int)) (j : Nat) : Int := max (runM least (xs.drop j)) (runM least (xs.take j).reverse)
/-- m is the greatest of least and of the cells from f to l -/
structure IsRoom (least : Int) (xs : List (Option Int)) (f l : Nat) (m : Int) : Prop where
  lo : least ≤ m
  up : ∀ i v, f ≤ i → i ≤ l → xs[i]? = some (some v) → v ≤ m
  at_ : m = least ∨ ∃ i, f ≤ i ∧ i ≤ l ∧ xs[i]? = some (some m)
theorem IsRoom.eq {least : Int} {xs : List (Option Int)} {f l : Nat} {m m' : Int} (h : IsRoom least xs f l m) (h' : IsRoom least xs f l m') : m = m' := by
  have a : m ≤ m' := by
    rcases h.at_ with e | ⟨i, h1, h2, h3⟩
    · rw [e]; exact h'.lo
    · exact h'.up i m h1 h2 h3
  have b : m' ≤ m := by
    rcases h'.at_ with e | ⟨i, h1, h2, h3⟩
    · rw [e]; exact h.lo
    · exact h.up i m' h1 h2 h3
  omega
theorem runM_is (least : Int) : ∀ (xs : List (Option Int)) (n : Nat), (∀ i, i < n → ∃ v, xs[i]? = some (some v)) → (∀ v, xs[n]? ≠ some (some v)) →
    least ≤ runM least xs ∧ (∀ i v, i < n → xs[i]? = some (some v) → v ≤ runM least xs) ∧ (runM least xs = least ∨ ∃ i, i < n ∧ xs[i]? = some (some (runM least xs)))
  | [], n, h, _ => by
    cases n with
    | zero => exact ⟨Int.le_refl _, fun i v hi => absurd hi (by omega), .inl rfl⟩
    | succ n => obtain ⟨v, e⟩ := h 0 (by omega); cases e
  | none :: xs, n, h, _ => by
    cases n with
    | zero => exact ⟨Int.le_refl _, fun i v hi => absurd hi (by omega), .inl rfl⟩
    | succ n => obtain ⟨v, e⟩ := h 0 (by omega); cases e
  | some w :: xs, n, h, h2 => by
    cases n with
    | zero => exact absurd rfl (h2 w)
    | succ n =>
      obtain ⟨a, b, c⟩ := runM_is least xs n (fun i hi => by obtain ⟨v, e⟩ := h (i + 1) (by omega); exact ⟨v, by simpa using e⟩) (fun v e => h2 v (by simpa using e))
      have e : runM least (some w :: xs) = max w (runM least xs) := rfl
      rw [e]
      refine ⟨by omega, fun i v hi hv => ?_, ?_⟩
      · cases i with
        | zero => simp at hv; omega
        | succ i => have := b i v (by omega) (by simpa using hv); omega
      · by_cases q : w ≤ runM least xs
        · rw [show max w (runM least xs) = runM least xs by omega]
          rcases c with c | ⟨i, hi, c⟩
          · exact .inl c
          · exact .inr ⟨i + 1, by omega, by simpa using c⟩
        · rw [show max w (runM least xs) = w by omega]
          exact .inr ⟨0, by omega, rfl⟩
theorem rev_get {α : Type} {xs : List α} {j i : Nat} (hj : j ≤ xs.length) (hi : i < j) : (xs.take j).reverse[i]? = xs[j - 1 - i]? := by
  have hl : (xs.take j).length = j := by rw [List.length_take]; omega
  rw [List.getElem?_reverse (by omega), hl, List.getElem?_take]
  rw [if_pos (by omega)]
theorem roomAt_is (least : Int) {xs : List (Option Int)} {f l j : Nat} (hj : f ≤ j) (hj2 : j ≤ l) (hs : ∀ i, f ≤ i → i ≤ l → ∃ v, xs[i]? = some (some v)) (h1 : ∀ v, xs[l + 1]? ≠ some (some v)) (h0 : f = 0 ∨ ∀ v, xs[f - 1]? ≠ some (some v)) : IsRoom least xs f l (roomAt least xs j) := by
  have hlen : l < xs.length := by
    obtain ⟨v, e⟩ := hs l (by omega) (by omega)
    exact (List.getElem?_eq_some_iff.mp e).1
  obtain ⟨a1, b1, c1⟩ := runM_is least (xs.drop j) (l + 1 - j) (fun i hi => by rw [List.getElem?_drop]; exact hs _ (by omega) (by omega)) (fun v => by rw [List.getElem?_drop, show j + (l + 1 - j) = l + 1 by omega]; exact h1 v)
  obtain ⟨a2, b2, c2⟩ := runM_is least (xs.take j).reverse (j - f) (fun i hi => by rw [rev_get (by omega) (by omega)]; exact hs _ (by omega) (by omega)) (fun v => by
    rcases h0 with h0 | h0
    · rw [h0, Nat.sub_zero, List.getElem?_eq_none (by rw [List.length_reverse, List.length_take]; omega)]
      exact fun z => nomatch z
    · by_cases z : j - f < j
      · rw [rev_get (by omega) (by omega), show j - 1 - (j - f) = f - 1 by omega]
        exact h0 v
      · rw [List.getElem?_eq_none (by rw [List.length_reverse, List.length_take]; omega)]
        exact fun z => nomatch z)
  unfold roomAt
  refine ⟨by omega, fun i v h2 h3 hv => ?_, ?_⟩
  · by_cases q : j ≤ i
    · have := b1 (i - j) v (by omega) (by rw [List.getElem?_drop, show j + (i - j) = i by omega]; exact hv)
      omega
    · have := b2 (j - 1 - i) v (by omega) (by rw [rev_get (by omega) (by omega), show j - 1 - (j - 1 - i) = i by omega]; exact hv)
      omega
  · have k1 : ∀ m, (m = least ∨ ∃ i, i < l + 1 - j ∧ (xs.drop j)[i]? = some (some m)) → m = least ∨ ∃ i, f ≤ i ∧ i ≤ l ∧ xs[i]? = some (some m) := fun m h => by
      rcases h with h | ⟨i, hi, h⟩
      · exact .inl h
      · rw [List.getElem?_drop] at h
        exact .inr ⟨j + i, by omega, by omega, h⟩
    have k2 : ∀ m, (m = least ∨ ∃ i, i < j - f ∧ (xs.take j).reverse[i]? = some (some m)) → m = least ∨ ∃ i, f ≤ i ∧ i ≤ l ∧ xs[i]? = some (some m) := fun m h => by
      rcases h with h | ⟨i, hi, h⟩
      · exact .inl h
      · rw [rev_get (by omega) (by omega)] at h
        exact .inr ⟨j - 1 - i, by omega, by omega, h⟩
    rcases Int.le_total (runM least (xs.drop j)) (runM least (xs.take j).reverse) with q | q
    · rw [Int.max_eq_right q]; exact k2 _ c2
    · rw [Int.max_eq_left q]; exact k1 _ c1
def colRuns (p : Nat → Bool) : Nat → List (Nat × Nat) × Option Nat
  | 0 => ([], none)
  | k + 1 => if p k then ((colRuns p k).1, some ((colRuns p k).2.getD k)) else match (colRuns p k).2 with
    | none => ((colRuns p k).1, none)
    | some f => ((colRuns p k).1 ++ [(f, k - 1)], none)
def hasL (j : Nat) (b : Nat × Nat) : Bool := decide (b.1 ≤ j) && decide (j ≤ b.2)
structure RunsOk (p : Nat → Bool) (k : Nat) (bs : List (Nat × Nat)) (o : Option Nat) : Prop where
  blk : ∀ b ∈ bs, b.1 ≤ b.2 ∧ b.2 + 1 < k ∧ (∀ j, b.1 ≤ j → j ≤ b.2 → p j = true) ∧ p (b.2 + 1) = false ∧ (b.1 = 0 ∨ p (b.1 - 1) = false)
  opn : ∀ f, o = some f → f < k ∧ (∀ j, f ≤ j → j < k → p j = true) ∧ (f = 0 ∨ p (f - 1) = false) ∧ ∀ b ∈ bs, b.2 < f
  shut : o = none → k = 0 ∨ p (k - 1) = false
  one : ∀ j, j < k → p j = true → (∃ b, bs.filter (hasL j) = [b]) ∨ ∃ f, o = some f ∧ f ≤ j
  off : ∀ j, p j = false → bs.filter (hasL j) = []
theorem runs_ok (p : Nat → Bool) : ∀ k, RunsOk p k (colRuns p k).1 (colRuns p k).2
  | 0 => ⟨(fun _ h => nomatch h), (fun _ h => nomatch h), fun _ => .inl rfl, fun _ h => absurd h (by omega), fun _ _ => rfl⟩
  | k + 1 => by
    have ih := runs_ok p k
    unfold colRuns
    generalize (colRuns p k).1 = bs at ih ⊢
    generalize (colRuns p k).2 = o at ih ⊢
    by_cases c : p k = true
    · rw [if_pos c]
      refine ⟨fun b hb => ?_, fun f hf => ?_, (fun h => nomatch h), fun j hj hp => ?_, ih.off⟩
      · obtain ⟨a1, a2, a3, a4, a5⟩ := ih.blk b hb
        exact ⟨a1, by omega, a3, a4, a5⟩
      · cases o with
        | none =>
          cases hf
          refine ⟨by show k < _; omega, fun j h1 h2 => ?_, ?_, fun b hb => ?_⟩
          · have h1 : k ≤ j := h1
            rw [show j = k by omega]; exact c
          · exact ih.shut rfl
          · have := (ih.blk b hb).2.1
            show b.2 < k
            omega
        | some f0 =>
          cases hf
          obtain ⟨a1, a2, a3, a4⟩ := ih.opn f0 rfl
          refine ⟨by show f0 < _; omega, fun j h1 h2 => ?_, a3, a4⟩
          by_cases q : j = k
          · rw [q]; exact c
          · exact a2 j h1 (by omega)
      · by_cases q : j = k
        · right
          refine ⟨_, rfl, ?_⟩
          cases o with
          | none => show k ≤ j; omega
          | some f0 => have := (ih.opn f0 rfl).1; show f0 ≤ j; omega
        · rcases ih.one j (by omega) hp with h | ⟨f, e, h⟩
          · exact .inl h
          · right
            rw [e]
            exact ⟨f, rfl, h⟩
    · rw [if_neg c]
      have c : p k = false := by simpa using c
      cases o with
      | none =>
        refine ⟨fun b hb => ?_, (fun f hf => nomatch hf), fun _ => .inr c, fun j hj hp => ?_, ih.off⟩
        · obtain ⟨a1, a2, a3, a4, a5⟩ := ih.blk b hb
          exact ⟨a1, by omega, a3, a4, a5⟩
        · have : j ≠ k := fun e => by rw [e, c] at hp; cases hp
          rcases ih.one j (by omega) hp with h | ⟨f, e, h⟩
          · exact .inl h
          · cases e
      | some f0 =>
        obtain ⟨a1, a2, a3, a4⟩ := ih.opn f0 rfl
        have hk : k - 1 + 1 = k := by omega
        refine ⟨fun b hb => ?_, (fun f hf => nomatch hf), fun _ => .inr c, fun j hj hp => ?_, fun j hp => ?_⟩
        · rcases List.mem_append.mp hb with hb | hb
          · obtain ⟨a1, a2, a3, a4, a5⟩ := ih.blk b hb
            exact ⟨a1, by omega, a3, a4, a5⟩
          · rw [List.mem_singleton.mp hb]
            refine ⟨?_, ?_, fun j h1 h2 => a2 j h1 ?_, ?_, a3⟩
            · show f0 ≤ k - 1; omega
            · show k - 1 + 1 < k + 1; omega
            · have h2 : j ≤ k - 1 := h2; omega
            · show p (k - 1 + 1) = false; rw [hk]; exact c
        · have : j ≠ k := fun e => by rw [e, c] at hp; cases hp
          left
          show ∃ b, (bs ++ [(f0, k - 1)]).filter (hasL j) = [b]
          rw [List.filter_append]
          by_cases q : f0 ≤ j
          · refine ⟨(f0, k - 1), ?_⟩
            rw [List.filter_eq_nil_iff.mpr fun b hb => ?_]
            · rw [List.filter_cons_of_pos (by unfold hasL; simp; omega)]
              rfl
            · have := a4 b hb
              unfold hasL
              simp
              omega
          · rcases ih.one j (by omega) hp with ⟨b, h⟩ | ⟨f, e, h⟩
            · refine ⟨b, ?_⟩
              rw [h, List.filter_cons_of_neg (by unfold hasL; simp; omega)]
              rfl
            · cases e; omega
        · show (bs ++ [(f0, k - 1)]).filter (hasL j) = []
          rw [List.filter_append, ih.off j hp, List.filter_cons_of_neg ?_]
          · rfl
          · unfold hasL
            simp
            intro h1
            by_cases q : j < k
            · rw [a2 j h1 q] at hp; cases hp
            · omega
theorem runs_one {p : Nat → Bool} {n j : Nat} (hn : p n = false) (hj : j < n) (hp : p j = true) : ∃ b, (colRuns p (n + 1)).1.filter (hasL j) = [b] := by
  have h := runs_ok p (n + 1)
  rcases h.one j (by omega) hp with h1 | ⟨f, e, h2⟩
  · exact h1
  · obtain ⟨a1, a2, _⟩ := h.opn f e
    have := a2 n (by omega) (by omega)
    rw [hn] at this; cases this
def colOf (t : List (List Int)) (c : Nat) : List (Option Int) := t.map fun r => if c + 1 < r.length then r[c]? else none
def roomsOf (least : Int) (t : List (List Int)) (j : Nat) : List Int := (List.range ((t.getD j []).length - 1)).map fun c => roomAt least (colOf t c) j
def stopsFrom (gap : Int) : Int → List Int → List Int
  | _, [] => []
  | s, x :: xs => (s + (x + gap)) :: stopsFrom gap (s + (x + gap)) xs
def rowStops (g l : Int) (t : List (List Int)) (j : Nat) : List Int := stopsFrom g 0 (roomsOf l t j)
def stopsF (g l : Int) (t : List (List Int)) : List (List Int) := (List.range t.length).map (rowStops g l t)
def rowEnd (g l : Int) (t : List (List Int)) (j : Nat) : Int := (rowStops g l t j).getLastD 0 + (t.getD j []).getLastD 0
def endsF (g l : Int) (t : List (List Int)) : List Int := (List.range t.length).map (rowEnd g l t)
def maxOf : List Int → Int
  | [] => 0
  | [x] => x
  | x :: y :: xs => max x (maxOf (y :: xs))
theorem maxOf_mem : ∀ {xs : List Int}, xs ≠ [] → maxOf xs ∈ xs
  | [], h => absurd rfl h
  | [x], _ => List.mem_singleton.mpr rfl
  | x :: y :: xs, _ => by
    have ih := maxOf_mem (xs := y :: xs) (by simp)
    unfold maxOf
    rcases Int.le_total x (maxOf (y :: xs)) with q | q
    · rw [Int.max_eq_right q]; exact List.mem_cons_of_mem _ ih
    · rw [Int.max_eq_left q]; exact List.mem_cons_self
theorem maxOf_le : ∀ {xs : List Int}, ∀ y ∈ xs, y ≤ maxOf xs
  | [], _, h => nomatch h
  | [x], y, h => by rw [List.mem_singleton.mp h]; exact Int.le_refl _
  | x :: z :: xs, y, h => by
    unfold maxOf
    rcases List.mem_cons.mp h with rfl | h
    · exact Int.le_max_left _ _
    · exact Int.le_trans (maxOf_le (xs := z :: xs) y h) (Int.le_max_right _ _)
theorem maxOf_eq {xs : List Int} {m : Int} (h : m ∈ xs) (h2 : ∀ y ∈ xs, y ≤ m) : m = maxOf xs :=
  Int.le_antisymm (maxOf_le m h) (h2 _ (maxOf_mem (List.ne_nil_of_mem h)))
def CellsIn (t : List (List Int)) (G : Int) : Prop := ∀ r ∈ t, ∀ x ∈ r, 0 ≤ x ∧ x ≤ G
theorem runM_in {l G : Int} (h0 : 0 ≤ l) (h1 : l ≤ G) : ∀ {xs : List (Option Int)}, (∀ v, some v ∈ xs → 0 ≤ v ∧ v ≤ G) → 0 ≤ runM l xs ∧ runM l xs ≤ G
  | [], _ => ⟨h0, h1⟩
  | none :: _, _ => ⟨h0, h1⟩
  | some v :: xs, h => by
    have ih := runM_in h0 h1 (xs := xs) fun v hv => h v (List.mem_cons_of_mem _ hv)
    have := h v List.mem_cons_self
    show 0 ≤ max v (runM l xs) ∧ max v (runM l xs) ≤ G
    omega
theorem roomAt_in {l G : Int} (h0 : 0 ≤ l) (h1 : l ≤ G) {xs : List (Option Int)} (h : ∀ v, some v ∈ xs → 0 ≤ v ∧ v ≤ G) (j : Nat) : 0 ≤ roomAt l xs j ∧ roomAt l xs j ≤ G := by
  unfold roomAt
  have a := runM_in h0 h1 (xs := xs.drop j) fun v hv => h v (List.mem_of_mem_drop hv)
  have b := runM_in h0 h1 (xs := (xs.take j).reverse) fun v hv => h v (List.mem_of_mem_take (List.mem_reverse.mp hv))
  omega
theorem colOf_in {t : List (List Int)} {G : Int} (h : CellsIn t G) (c : Nat) : ∀ v, some v ∈ colOf t c → 0 ≤ v ∧ v ≤ G := by
  intro v hv
  unfold colOf at hv
  obtain ⟨r, hr, e⟩ := List.mem_map.mp hv
  split at e
  · exact h r hr v (List.mem_of_getElem? e)
  · cases e
theorem roomsOf_in {t : List (List Int)} {l G : Int} (h0 : 0 ≤ l) (h1 : l ≤ G) (h : CellsIn t G) (j : Nat) : ∀ x ∈ roomsOf l t j, 0 ≤ x ∧ x ≤ G := by
  intro x hx
  unfold roomsOf at hx
  obtain ⟨c, _, rfl⟩ := List.mem_map.mp hx
  exact roomAt_in h0 h1 (colOf_in h c) j
theorem stopsFrom_in {g G : Int} (h0 : 0 ≤ g) (h1 : g ≤ G) : ∀ {xs : List Int} {s : Int}, (∀ x ∈ xs, 0 ≤ x ∧ x ≤ G) → 0 ≤ s → ∀ y ∈ stopsFrom g s xs, 0 ≤ y ∧ y ≤ s + 2 * G * xs.length
  | [], _, _, _, y, hy => nomatch hy
  | x :: xs, s, h, hs, y, hy => by
    have hx := h x List.mem_cons_self
    have ih := stopsFrom_in h0 h1 (xs := xs) (s := s + (x + g)) (fun x hx => h x (List.mem_cons_of_mem _ hx)) (by omega)
    have e : (2 : Int) * G * ((x :: xs).length : Nat) = 2 * G * (xs.length : Nat) + 2 * G := by
      rw [List.length_cons, Int.natCast_add, Int.mul_add]
      simp
    rw [e]
    have p : 0 ≤ 2 * G * (xs.length : Int) := Int.mul_nonneg (by omega) (by omega)
    rcases List.mem_cons.mp hy with rfl | hy
    · omega
    · have := ih y hy
      omega
theorem stopsFrom_len {g : Int} : ∀ {xs : List Int} {s : Int}, (stopsFrom g s xs).length = xs.length
  | [], _ => rfl
  | _ :: xs, _ => by unfold stopsFrom; rw [List.length_cons, List.length_cons, stopsFrom_len]
theorem rowStops_len {g l : Int} {t : List (List Int)} {j : Nat} : (rowStops g l t j).length = (t.getD j []).length - 1 := by
  unfold rowStops roomsOf
  rw [stopsFrom_len, List.length_map, List.length_range]
theorem rowStops_in {t : List (List Int)} {g l G : Int} (g0 : 0 ≤ g) (g1 : g ≤ G) (h0 : 0 ≤ l) (h1 : l ≤ G) (h : CellsIn t G) {j : Nat} (hl : (t.getD j []).length ≤ 12) : ∀ y ∈ rowStops g l t j, 0 ≤ y ∧ y ≤ 22 * G := by
  intro y hy
  have := stopsFrom_in g0 g1 (roomsOf_in h0 h1 h j) (Int.le_refl 0) y hy
  refine ⟨this.1, Int.le_trans this.2 ?_⟩
  have e : (roomsOf l t j).length ≤ 11 := by
    unfold roomsOf
    rw [List.length_map, List.length_range]
    omega
  have : 2 * G * ((roomsOf l t j).length : Int) ≤ 2 * G * 11 := Int.mul_le_mul_of_nonneg_left (by omega) (by omega)
  omega
theorem getLastD_mem {xs : List Int} {d : Int} : xs.getLastD d = d ∨ xs.getLastD d ∈ xs := by
  cases xs with
  | nil => exact .inl rfl
  | cons a b =>
    right
    rw [List.getLastD_cons]
    have : b.getLastD a = (a :: b).getLast (by simp) := (List.getLast_eq_getLastD ..).symm
    rw [this]
    exact List.getLast_mem _
theorem rowEnd_in {t : List (List Int)} {g l G : Int} (g0 : 0 ≤ g) (g1 : g ≤ G) (h0 : 0 ≤ l) (h1 : l ≤ G) (h : CellsIn t G) {j : Nat} (hl : (t.getD j []).length ≤ 12) : 0 ≤ rowEnd g l t j ∧ rowEnd g l t j ≤ 23 * G := by
  unfold rowEnd
  have a : 0 ≤ (rowStops g l t j).getLastD 0 ∧ (rowStops g l t j).getLastD 0 ≤ 22 * G := by
    rcases getLastD_mem (xs := rowStops g l t j) (d := 0) with e | m
    · rw [e]; omega
    · exact rowStops_in g0 g1 h0 h1 h hl _ m
  have b : 0 ≤ (t.getD j []).getLastD 0 ∧ (t.getD j []).getLastD 0 ≤ G := by
    rcases getLastD_mem (xs := t.getD j []) (d := 0) with e | m
    · rw [e]; omega
    · rw [List.getD_eq_getElem?_getD] at m
      cases q : t[j]? with
      | none => rw [q] at m; cases m
      | some r =>
        rw [q] at m
        rw [List.getD_eq_getElem?_getD, q]
        exact h r (List.mem_of_getElem? q) _ m
  omega
def tabAt (t : List (List Int)) (j : Nat) : Nat := (t.getD j []).length - 1
def hasT (ns : List Nat) (c j : Nat) : Bool := decide (c < ns.getD j 0)
abbrev Blk := Nat × Nat × Nat
def colBlks (ns : List Nat) (c : Nat) : List Blk := (colRuns (hasT ns c) (ns.length + 1)).1.map fun b => (c, b.1, b.2)
def blksF (ns : List Nat) (m : Nat) : List Blk := (List.range m).flatMap (colBlks ns)
def tabsF (t : List (List Int)) : List Nat := t.map fun r => r.length - 1
def hasB (j : Nat) (b : Blk) : Bool := hasL j b.2
def roomB (l : Int) (t : List (List Int)) (b : Blk) : Int := roomAt l (colOf t b.1) b.2.1
theorem tabsF_len (t : List (List Int)) : (tabsF t).length = t.length := by unfold tabsF; rw [List.length_map]
theorem tabsF_at (t : List (List Int)) (j : Nat) : (tabsF t).getD j 0 = tabAt t j := by
  unfold tabsF tabAt
  rw [List.getD_eq_getElem?_getD, List.getD_eq_getElem?_getD, List.getElem?_map]
  cases t[j]? <;> rfl
theorem colOf_some {t : List (List Int)} {c j : Nat} (h : hasT (tabsF t) c j = true) : ∃ v, (colOf t c)[j]? = some (some v) ∧ (t.getD j [])[c]? = some v := by
  unfold hasT at h
  rw [tabsF_at, decide_eq_true_eq] at h
  unfold tabAt at h
  unfold colOf
  rw [List.getElem?_map]
  rw [List.getD_eq_getElem?_getD] at h ⊢
  cases q : t[j]? with
  | none => rw [q] at h; exact absurd h (by simp)
  | some r =>
    rw [q] at h
    have h : c < r.length - 1 := h
    exact ⟨r[c]'(by omega), by rw [Option.map_some, if_pos (by omega), List.getElem?_eq_getElem (by omega)], List.getElem?_eq_getElem (by omega)⟩
theorem colOf_none {t : List (List Int)} {c j : Nat} (h : hasT (tabsF t) c j = false) : ∀ v, (colOf t c)[j]? ≠ some (some v) := by
  unfold hasT at h
  rw [tabsF_at, decide_eq_false_iff_not] at h
  unfold tabAt at h
  unfold colOf
  rw [List.getElem?_map]
  rw [List.getD_eq_getElem?_getD] at h
  cases q : t[j]? with
  | none => exact fun v e => nomatch e
  | some r =>
    rw [q] at h
    have h : ¬ c < r.length - 1 := h
    intro v e
    rw [Option.map_some, if_neg (by omega)] at e
    cases e
/-- what is known of a block -/
structure BlkOk (t : List (List Int)) (b : Blk) : Prop where
  le : b.2.1 ≤ b.2.2
  lt : b.2.2 < t.length
  at_ : ∀ j, b.2.1 ≤ j → j ≤ b.2.2 → hasT (tabsF t) b.1 j = true
  nx : hasT (tabsF t) b.1 (b.2.2 + 1) = false
  pv : b.2.1 = 0 ∨ hasT (tabsF t) b.1 (b.2.1 - 1) = false
theorem colBlks_ok {t : List (List Int)} {c : Nat} {b : Blk} (h : b ∈ colBlks (tabsF t) c) : BlkOk t b ∧ b.1 = c := by
  unfold colBlks at h
  obtain ⟨q, hq, rfl⟩ := List.mem_map.mp h
  obtain ⟨a1, a2, a3, a4, a5⟩ := (runs_ok _ _).blk q hq
  rw [tabsF_len] at a2
  exact ⟨⟨a1, by show q.2 < _; omega, a3, a4, a5⟩, rfl⟩
theorem blksF_ok {t : List (List Int)} {m : Nat} {b : Blk} (h : b ∈ blksF (tabsF t) m) : BlkOk t b ∧ b.1 < m := by
  unfold blksF at h
  obtain ⟨c, hc, hb⟩ := List.mem_flatMap.mp h
  obtain ⟨h1, h2⟩ := colBlks_ok hb
  exact ⟨h1, by rw [h2]; exact List.mem_range.mp hc⟩
theorem BlkOk.room {t : List (List Int)} {b : Blk} (h : BlkOk t b) (l : Int) {j : Nat} (h1 : b.2.1 ≤ j) (h2 : j ≤ b.2.2) : IsRoom l (colOf t b.1) b.2.1 b.2.2 (roomAt l (colOf t b.1) j) :=
  roomAt_is l h1 h2 (fun i a b' => let ⟨v, e, _⟩ := colOf_some (h.at_ i a b'); ⟨v, e⟩) (colOf_none h.nx) (h.pv.imp id colOf_none)
theorem BlkOk.same {t : List (List Int)} {b : Blk} (h : BlkOk t b) (l : Int) {j : Nat} (h1 : b.2.1 ≤ j) (h2 : j ≤ b.2.2) : roomAt l (colOf t b.1) j = roomB l t b :=
  (h.room l h1 h2).eq (h.room l (Nat.le_refl _) h.le)
theorem flat_if {α : Type} (k : Nat) (f : Nat → α) : ∀ n, (List.range n).flatMap (fun c => if c < k then [f c] else []) = (List.range (min k n)).map f
  | 0 => by simp
  | n + 1 => by
    rw [List.range_succ, List.flatMap_append, flat_if k f n]
    by_cases h : n < k
    · rw [show min k (n + 1) = n + 1 by omega, show min k n = n by omega, List.range_succ, List.map_append]
      simp [h]
    · rw [show min k (n + 1) = min k n by omega]
      simp [h]
theorem blks_rooms {t : List (List Int)} (l : Int) {j m : Nat} (hj : j < t.length) (hm : tabAt t j ≤ m) : ((blksF (tabsF t) m).filter (hasB j)).map (roomB l t) = roomsOf l t j := by
  unfold blksF
  rw [List.filter_flatMap, List.map_flatMap]
  have e : ∀ c, ((colBlks (tabsF t) c).filter (hasB j)).map (roomB l t) = if c < tabAt t j then [roomAt l (colOf t c) j] else [] := by
    intro c
    unfold colBlks
    rw [List.filter_map, List.map_map]
    have e2 : (hasB j ∘ fun b : Nat × Nat => (c, b.1, b.2)) = hasL j := rfl
    rw [e2]
    by_cases h : c < tabAt t j
    · rw [if_pos h]
      have hp : hasT (tabsF t) c j = true := by unfold hasT; rw [tabsF_at, decide_eq_true_eq]; exact h
      have hn : hasT (tabsF t) c (tabsF t).length = false := by
        unfold hasT
        rw [tabsF_at, decide_eq_false_iff_not]
        unfold tabAt
        rw [tabsF_len, List.getD_eq_getElem?_getD, List.getElem?_eq_none (Nat.le_refl _)]
        exact Nat.not_lt_zero _
      obtain ⟨b, hb⟩ := runs_one hn (by rw [tabsF_len]; exact hj) hp
      rw [hb]
      have hm : b ∈ (colRuns (hasT (tabsF t) c) ((tabsF t).length + 1)).1.filter (hasL j) := by rw [hb]; exact List.mem_singleton.mpr rfl
      obtain ⟨m1, m2⟩ := List.mem_filter.mp hm
      have ok := (colBlks_ok (t := t) (c := c) (b := (c, b.1, b.2)) (List.mem_map.mpr ⟨b, m1, rfl⟩)).1
      unfold hasL at m2
      simp at m2
      show [roomB l t (c, b.1, b.2)] = _
      rw [← ok.same l m2.1 m2.2]
    · rw [if_neg h]
      have hp : hasT (tabsF t) c j = false := by unfold hasT; rw [tabsF_at, decide_eq_false_iff_not]; exact h
      rw [(runs_ok _ _).off j hp]
      rfl
  rw [show (fun c => ((colBlks (tabsF t) c).filter (hasB j)).map (roomB l t)) = fun c => if c < tabAt t j then [roomAt l (colOf t c) j] else [] from funext e, flat_if, Nat.min_eq_left hm]
  rfl
def natsD (ns : List Nat) : List D := ns.map fun n : Nat => D.int (n : Int)
def blkD (b : Blk) : D := .tup [.int (b.1 : Nat), .int (b.2.1 : Nat), .int (b.2.2 : Nat)]
def blksD (bs : List Blk) : D := .lst (bs.map blkD)
def sp_tabs_in : DSpec := fun ds S Φ _ => ∃ d t, ds = [d] ∧ TabS S d t ∧ TabOk t ∧ Φ S (.lst (natsD (tabsF t)))
def sp_blocks_of_column : DSpec := fun ds S Φ _ => ∃ ns, ∃ c : Nat, ds = [.lst (natsD ns), .int c] ∧ ns.length ≤ 60 ∧ Φ S (blksD (colBlks ns c))
def sp_blocks_by_tabs : DSpec := fun ds S Φ _ => ∃ ns, ds = [.lst (natsD ns)] ∧ ns.length ≤ 60 ∧ Φ S (blksD (blksF ns 11))
def sp_blocks_in : DSpec := fun ds S Φ _ => ∃ d t, ds = [d] ∧ TabS S d t ∧ TabOk t ∧ Φ S (blksD (blksF (tabsF t) 11))
def sp_greatest_in : DSpec := fun ds S Φ _ => ∃ d t b, ds = [d, blkD b] ∧ TabS S d t ∧ TabOk t ∧ BlkOk t b ∧ ∀ m, (∃ i, b.2.1 ≤ i ∧ i ≤ b.2.2 ∧ (colOf t b.1)[i]? = some (some m)) → (∀ i v, b.2.1 ≤ i → i ≤ b.2.2 → (colOf t b.1)[i]? = some (some v) → v ≤ m) → Φ S (.int m)
def sp_room_of (C : Addr) : DSpec := fun ds S Φ _ => ∃ d s t b ks g l, ds = [d, s, blkD b] ∧ TabS S d t ∧ TabOk t ∧ BlkOk t b ∧ asI S s = some (C, styF ks g l) ∧ Φ S (.int (roomB l t b))
def roomsT (l : Int) (t : List (List Int)) : List (List Int) := (List.range t.length).map (roomsOf l t)
def sp_rooms_in (C : Addr) : DSpec := fun ds S Φ _ => ∃ d s t ks g l, ds = [d, s] ∧ TabS S d t ∧ TabOk t ∧ asI S s = some (C, styF ks g l) ∧ newTab (roomsT l t) S Φ
def sp_stops_in (C : Addr) : DSpec := fun ds S Φ _ => ∃ d s t ks g l, ds = [d, s] ∧ TabS S d t ∧ TabOk t ∧ asI S s = some (C, styF ks g l) ∧ Φ S (tabD (stopsF g l t))
def sp_ends_in (C : Addr) : DSpec := fun ds S Φ _ => ∃ d s t ks g l, ds = [d, s] ∧ TabS S d t ∧ TabOk t ∧ asI S s = some (C, styF ks g l) ∧ LookOk ks g l ∧ Φ S (.lst ((endsF g l t).map D.int))
abbrev Steps := List (Int × Int)
abbrev Curve := Int × Steps
def stepD (p : Int × Int) : D := .tup [.int p.1, .int p.2]
def stepsD (xs : Steps) : D := .lst (xs.map stepD)
def curveD (c : Curve) : D := .tup [.int c.1, stepsD c.2]
def bottomF (c : Curve) : Int := c.1 - (c.2.map (·.1)).sum
/-- insertion into a rising list, no number twice -/
def insU (x : Int) : List Int → List Int
  | [] => [x]
  | y :: ys => if x < y then x :: y :: ys else if x = y then y :: ys else y :: insU x ys
def riseF (xs : List Int) : List Int := xs.foldr insU []
def bsGo (cells : List Int) (least : Int) : Int → List Int → Steps
  | _, [] => []
  | m, w :: ws => (w - ws.headD least, m + (cells.filter fun x => x == w).length) :: bsGo cells least (m + (cells.filter fun x => x == w).length) ws
def blockF (cells : List Int) (least : Int) : Steps := bsGo cells least 0 (riseF (cells.filter fun x => decide (least < x))).reverse
def cntF (xs : Steps) (s : Int) : Int := ((xs.filter fun p => p.2 == s).map (·.1)).sum
def mergeF (xs : Steps) : Steps := (riseF (xs.map (·.2))).map fun s => (cntF xs s, s)
/-- by how much the slope grows, place by place -/
def entF : Int → Int → Steps → List (Int × Int)
  | _, _, [] => []
  | p, b, (c, s) :: xs => (p, s - b) :: entF (p - c) s xs
def entsF (cs : List Curve) : List (Int × Int) := cs.flatMap fun c => entF c.1 0 c.2
def atF (es : List (Int × Int)) (p : Int) : Int := ((es.filter fun e => e.1 == p).map (·.2)).sum
def scGo (es : List (Int × Int)) (bot : Int) : Int → List Int → Steps
  | _, [] => []
  | s, p :: ps => (p - ps.headD bot, s + atF es p) :: scGo es bot (s + atF es p) ps
def botF (cs : List Curve) : Int := maxOf (cs.map bottomF)
def sumC (cs : List Curve) : Curve := (maxOf (cs.map (·.1)), mergeF (scGo (entsF cs) (botF cs) 0 ((riseF ((entsF cs).map (·.1))).reverse.filter fun p => decide (botF cs < p))))
def runEndF (t : List (List Int)) (c : Nat) : Nat → Nat → Nat
  | 0, l => l
  | k + 1, l => if l + 1 < t.length ∧ c + 1 < (t.getD (l + 1) []).length then runEndF t c k (l + 1) else l
def runEnd (t : List (List Int)) (c l : Nat) : Nat := runEndF t c t.length l
def cellsF (t : List (List Int)) (c f z : Nat) : List Int := ((t.drop f).take (z + 1 - f)).map fun r => r.getD c 0
def tailF (x : Int) : Steps := if 0 < x then [(x, 1)] else []
def curvesF (rec : Nat → Nat → Nat → Curve) (least : Int) (t : List (List Int)) (ends : List Int) (c z : Nat) : Nat → Nat → List Curve
  | 0, _ => []
  | k + 1, l => if z < l then [] else if (t.getD l []).length ≤ c + 1 then (ends.getD l 0, tailF ((t.getD l []).getLastD 0)) :: curvesF rec least t ends c z k (l + 1)
    else ((rec (c + 1) l (runEnd t c l)).1, mergeF (blockF (cellsF t c l (runEnd t c l)) least ++ (rec (c + 1) l (runEnd t c l)).2)) :: curvesF rec least t ends c z k (runEnd t c l + 1)
def curveF (least : Int) (t : List (List Int)) (ends : List Int) : Nat → Nat → Nat → Nat → Curve
  | 0, _, _, _ => (0, [])
  | m + 1, c, f, z => sumC (curvesF (curveF least t ends m) least t ends c z (z + 1) f)
def pageC (g l : Int) (t : List (List Int)) : Curve := curveF l t (endsF g l t) 12 0 0 (t.length - 1)
def pieceD (p : Int × Int × Int) : D := .tup [.int p.1, .int p.2.1, .int p.2.2]
def piecesGo : Int → Steps → List (Int × Int × Int)
  | _, [] => []
  | h, (c, s) :: xs => (h - c, h, s) :: piecesGo (h - c) xs
def piecesF (c : Curve) : List (Int × Int × Int) := (piecesGo c.1 c.2).reverse
def minQ (c q : Int) : Int := if q < c then q else c
def takeGo : Int → Int → Steps → Int
  | w, _, [] => w
  | w, left, (c, s) :: xs => if minQ c (left / s) < c then w - minQ c (left / s) else takeGo (w - minQ c (left / s)) (left - minQ c (left / s) * s) xs
def widthForF (c : Curve) (letters : Int) : Int := takeGo c.1 letters c.2
/-- rising slopes from 1 on, at least one letter each -/
structure StOk (xs : Steps) : Prop where
  rise : xs.Pairwise fun a b => a.2 < b.2
  slope : ∀ p ∈ xs, 1 ≤ p.2
  many : ∀ p ∈ xs, 1 ≤ p.1
def sp_bottom_of : DSpec := fun ds S Φ _ => ∃ c : Curve, ds = [curveD c] ∧ c.2.length ≤ 100000 ∧ Φ S (.int (bottomF c))
def sp_block_steps : DSpec := fun ds S Φ _ => ∃ (cells : List Int) (least : Int), ds = [.lst (cells.map D.int), .int least] ∧ cells.length ≤ 60 ∧ ∀ Z, Φ (S ++ Z) (stepsD (blockF cells least))
def sp_merged_steps : DSpec := fun ds S Φ _ => ∃ a b : Steps, ds = [stepsD a, stepsD b] ∧ a.length + b.length ≤ 100000 ∧ ∀ Z, Φ (S ++ Z) (stepsD (mergeF (a ++ b)))
def sp_summed_curve : DSpec := fun ds S Φ _ => ∃ cs : List Curve, ds = [.lst (cs.map curveD)] ∧ 1 ≤ cs.length ∧ cs.length ≤ 60 ∧ (∀ c ∈ cs, c.2.length ≤ 800) ∧ ∀ Z, Φ (S ++ Z) (curveD (sumC cs))
def sp_run_end : DSpec := fun ds S Φ _ => ∃ d t, ∃ c l : Nat, ds = [d, .int c, .int l] ∧ TabS S d t ∧ t.length ≤ 60 ∧ l < t.length ∧ Φ S (.int (runEnd t c l : Nat))
def sp_lines_curve (m : Nat) : DSpec := fun ds S Φ _ => m ≤ 12 ∧ ∃ t, ∃ least : Int, ∃ ends : List Int, ∃ c f z : Nat, ds = [tabD t, .int least, .lst (ends.map D.int), .int c, .int f, .int z] ∧ TabOk t ∧ ends.length = t.length ∧ f ≤ z ∧ z < t.length ∧ (∀ i, f ≤ i → i ≤ z → c < (t.getD i []).length ∧ (t.getD i []).length ≤ c + m) ∧ (z + 1 = t.length ∨ (t.getD (z + 1) []).length ≤ c + 1) ∧ ∀ Z, Φ (S ++ Z) (curveD (curveF least t ends m c f z))
def sp_page_curve (C : Addr) : DSpec := fun ds S Φ _ => ∃ t s ks g l, ds = [tabD t, s] ∧ TabOk t ∧ asI S s = some (C, styF ks g l) ∧ LookOk ks g l ∧ ∀ Z, Φ (S ++ Z) (curveD (pageC g l t))
def sp_narrowest (C : Addr) : DSpec := fun ds S Φ _ => ∃ t s ks g l, ds = [tabD t, s] ∧ TabOk t ∧ asI S s = some (C, styF ks g l) ∧ LookOk ks g l ∧ ∀ Z, Φ (S ++ Z) (.int (bottomF (pageC g l t)))
def sp_slopes (C : Addr) : DSpec := fun ds S Φ _ => ∃ t s ks g l, ds = [tabD t, s] ∧ TabOk t ∧ asI S s = some (C, styF ks g l) ∧ LookOk ks g l ∧ ∀ Z, Φ (S ++ Z) (.lst ((piecesF (pageC g l t)).map pieceD))
def sp_width_for (C I : Addr) : DSpec := fun ds S Φ Ψ => ∃ t s ks g l, ∃ n : Int, ds = [tabD t, s, .int n] ∧ TabOk t ∧ asI S s = some (C, styF ks g l) ∧ LookOk ks g l ∧ n < 2 ^ 400 ∧ (0 ≤ n → ∀ Z, Φ (S ++ Z) (.int (widthForF (pageC g l t) n))) ∧ (n < 0 → Ψ S ⟨I, []⟩)
/-- the law's source of numbers: large cells at b, a mixed number, how often it was mixed -/
structure Nd (S : Sto) (h b n : Nat) : Prop where
  top : ∃ m k : Int, S[h]? = some (.lst [.own b, .int m, .int k]) ∧ 0 ≤ m ∧ m < 2 ^ 127 ∧ 0 ≤ k ∧ k ≤ n
  low : ∃ xs : List Int, S[b]? = some (.lst (xs.map D.int)) ∧ (∀ x ∈ xs, 0 ≤ x) ∧ xs.length ≤ 40
  ne : b ≠ h
structure Frm (A : List Nat) (S S' : Sto) : Prop where
  len : S.length ≤ S'.length
  get : ∀ i c, i ∉ A → S[i]? = some c → S'[i]? = some c
def sp__law_source : DSpec := fun ds S Φ _ => ∃ ns : List Int, ds = [.sq (ns.map D.int)] ∧ ∀ S', Nd S' (S.length + 1) S.length 0 → Φ S' (.own (S.length + 1))
def sp__law_pick : DSpec := fun ds S Φ _ => ∃ h b n m, ds = [.own h, .int m] ∧ Nd S h b n ∧ n < 2 ^ 100 ∧ 0 < m ∧ m < 2 ^ 500 ∧ ∀ S' v, Nd S' h b (n + 1) → Frm [h, b] S S' → S'.length = S.length → 0 ≤ v → v < m → Φ S' (.int v)
abbrev lookD (g l : Int) : D := .tup [.int g, .int l]
def sp__law_look : DSpec := fun ds S Φ _ => ∃ h b n w, ds = [.own h, .int w] ∧ Nd S h b n ∧ n < 2 ^ 90 ∧ 0 ≤ w ∧ w < 100 ∧ ∀ S' g l, Nd S' h b (n + 3) → Frm [h, b] S S' → 0 ≤ g → g ≤ 2 → 0 ≤ l → l ≤ w → Φ S' (lookD g l)
def sp__law_named (C : Addr) : DSpec := fun ds S Φ _ => ∃ h b n g l, ds = [.own h, lookD g l] ∧ Nd S h b n ∧ n < 2 ^ 90 ∧ 0 ≤ g ∧ g ≤ GREAT ∧ 0 ≤ l ∧ l ≤ GREAT ∧ ∀ S' ks, Nd S' h b (n + 1) → LookOk ks g l → Φ (S' ++ [.ins C (styF ks g l)]) (.own S'.length)
def sp__law_grid : DSpec := fun ds S Φ _ => ∃ h b n, ∃ R K : Nat, ∃ w : Int, ds = [.own h, .int R, .int K, .int w] ∧ Nd S h b n ∧ n < 2 ^ 90 ∧ 1 ≤ R ∧ R ≤ 60 ∧ 1 ≤ K ∧ K ≤ 12 ∧ 1 ≤ w ∧ w < 100 ∧ ∀ S' t, Nd S' h b (n + 1000) → 1 ≤ t.length → t.length ≤ R → (∀ r ∈ t, 1 ≤ r.length ∧ r.length ≤ K ∧ ∀ x ∈ r, 0 ≤ x ∧ x < w) → Φ S' (tabD t)
def sp__law_span : DSpec := fun ds S Φ _ => ∃ t g l, ∃ i c : Nat, ds = [tabD t, lookD g l, .int i, .int c] ∧ TabOk t ∧ i < t.length ∧ c + 1 < (t.getD i []).length ∧ Φ S (.int (roomAt l (colOf t c) i + g))
def sp__law_ends : DSpec := fun ds S Φ _ => ∃ t g l, ds = [tabD t, lookD g l] ∧ TabOk t ∧ ∀ Z, Φ (S ++ Z) (.lst ((endsF g l t).map D.int))
def grownF (t : List (List Int)) (k : Nat) (f : Int) (z : Nat) : List (List Int) := t.flatMap fun r => List.replicate k (List.replicate z 0 ++ r.map (· * f))
def sp__law_grown : DSpec := fun ds S Φ _ => ∃ t g l, ∃ k z : Nat, ∃ f : Int, ds = [tabD t, lookD g l, .tup [.int k, .int f, .int z]] ∧ TabOk t ∧ k * t.length ≤ 60 ∧ z ≤ 12 ∧ 1 ≤ f ∧ f ≤ 10 ^ 29 ∧ 0 ≤ g ∧ g ≤ 10 ∧ 0 ≤ l ∧ l ≤ 10 ∧ (∀ r ∈ t, ∀ x ∈ r, x ≤ 10) ∧ ∀ Z, Φ (S ++ Z) (.tup [tabD (grownF t k f z), lookD (g * f) (l * f)])
def sp__law_sizes : DSpec := fun ds S Φ _ => ∃ h b n t, ∃ w : Int, ds = [.own h, tabD t, .int w] ∧ Nd S h b n ∧ n < 2 ^ 90 ∧ TabOk t ∧ 0 ≤ w ∧ w < 1000 ∧ ∀ S' (k z : Nat) (f : Int), Nd S' h b (n + 6) → Frm [h, b] S S' → 1 ≤ k → k * t.length ≤ 60 → 1 ≤ f → f ≤ 10 ^ 29 → (∀ r ∈ t, z + r.length ≤ 12) → Φ S' (.tup [.int k, .int f, .int z])
def sumP (ps : List (Int × Int × Int)) (w : Int) : Int := (ps.map fun p => p.2.2 * max 0 (p.2.1 - max p.1 w)).sum
def sp__law_sum : DSpec := fun ds S Φ _ => ∃ ps w, ds = [.lst (ps.map pieceD), .int w] ∧ ps.length ≤ 1000 ∧ (∀ p ∈ ps, p.2.2.natAbs < 2 ^ 200 ∧ p.1.natAbs < 2 ^ 200 ∧ p.2.1.natAbs < 2 ^ 200) ∧ w.natAbs < 2 ^ 300 ∧ Φ S (.int (sumP ps w))
def sp__law_refused (C I : Addr) : DSpec := fun ds S Φ _ => ∃ t s ks g l, ∃ n : Int, ds = [tabD t, s, .int n] ∧ TabOk t ∧ asI S s = some (C, styF ks g l) ∧ LookOk ks g l ∧ n < 0 ∧ ∀ Z, Φ (S ++ Z) (.bl true)
def sp__law_right : DSpec := fun ds S Φ _ => ∃ h b n t g l, ds = [.own h, tabD t, lookD g l] ∧ Nd S h b n ∧ n < 2 ^ 90 ∧ TabOk t ∧ 0 ≤ g ∧ g ≤ GREAT ∧ 0 ≤ l ∧ l ≤ GREAT ∧ ∀ S', Nd S' h b (n + 10) → Φ S' (.bl true)
def sp_law : DSpec := fun ds S Φ _ => ∃ ns : List Int, ds = [.sq (ns.map D.int)] ∧ ∀ S, Φ S (.bl true)
abbrev N_is_integer : List Str := ["thing", "least", "most"]
abbrev P_is_integer : List Str := ["thing", "least", "most"]
abbrev N_is_cell : List Str := ["thing"]
abbrev P_is_cell : List Str := ["thing"]
abbrev N_is_line : List Str := ["thing", "cell"]
abbrev P_is_line : List Str := ["thing"]
abbrev N_is_table : List Str := ["thing", "line"]
abbrev P_is_table : List Str := ["thing"]
abbrev N_need_table : List Str := ["table"]
abbrev P_need_table : List Str := ["table"]
abbrev N_tabs_in : List Str := ["table", "cells"]
abbrev P_tabs_in : List Str := ["table"]
abbrev N_blocks_of_column : List Str := ["tabs", "column", "found", "first", "line", "many"]
abbrev P_blocks_of_column : List Str := ["tabs", "column"]
abbrev N_blocks_by_tabs : List Str := ["tabs", "found", "column"]
abbrev P_blocks_by_tabs : List Str := ["tabs"]
abbrev N_blocks_in : List Str := ["table"]
abbrev P_blocks_in : List Str := ["table"]
abbrev N_greatest_in : List Str := ["table", "block", "column", "first", "last", "cells"]
abbrev P_greatest_in : List Str := ["table", "block"]
abbrev N_room_of : List Str := ["table", "style", "block"]
abbrev P_room_of : List Str := ["table", "style", "block"]
abbrev N_rooms_in : List Str := ["table", "style", "found", "block", "room", "line", "cells"]
abbrev P_rooms_in : List Str := ["table", "style"]
abbrev N_stops_in : List Str := ["table", "style", "found", "rooms", "stop", "row", "room"]
abbrev P_stops_in : List Str := ["table", "style"]
abbrev N_ends_in : List Str := ["table", "style", "found", "cells", "row", "begin"]
abbrev P_ends_in : List Str := ["table", "style"]
abbrev N_bottom_of : List Str := ["curve", "count", "slope"]
abbrev P_bottom_of : List Str := ["curve"]
abbrev N_block_steps : List Str := ["cells", "least", "found", "many", "widths", "width", "lower", "cell"]
abbrev P_block_steps : List Str := ["cells", "least"]
abbrev N_merged_steps : List Str := ["one", "other", "counts", "count", "slope"]
abbrev P_merged_steps : List Str := ["one", "other"]
abbrev N_summed_curve : List Str := ["curves", "bottom", "growth", "top", "steps", "place", "before", "count", "slope", "places", "found", "lower", "curve"]
abbrev P_summed_curve : List Str := ["curves"]
abbrev N_run_end : List Str := ["table", "column", "line", "last"]
abbrev P_run_end : List Str := ["table", "column", "line"]
abbrev N_lines_curve : List Str := ["table", "least", "line_ends", "column", "first", "last", "curves", "line", "tail", "stop", "top", "steps", "own", "cells"]
abbrev P_lines_curve : List Str := ["table", "least", "line_ends", "column", "first", "last"]
abbrev N_page_curve : List Str := ["table", "style"]
abbrev P_page_curve : List Str := ["table", "style"]
abbrev N_narrowest : List Str := ["table", "style"]
abbrev P_narrowest : List Str := ["table", "style"]
abbrev N_slopes : List Str := ["table", "style", "high", "steps", "found", "count", "slope"]
abbrev P_slopes : List Str := ["table", "style"]
abbrev N_width_for : List Str := ["table", "style", "letters", "width", "steps", "left", "count", "slope", "many"]
abbrev P_width_for : List Str := ["table", "style", "letters"]
abbrev N_are_kinds : List Str := ["thing", "name"]
abbrev P_are_kinds : List Str := ["thing"]
abbrev N_Style___init__ : List Str := ["self", "gap", "least", "kinds", "names"]
abbrev P_Style___init__ : List Str := ["self", "gap", "least", "kinds"]
abbrev P0_Style___init__ : List Str := ["self", "gap", "least"]
abbrev N_Style_of : List Str := ["cls", "kinds", "gap", "least"]
abbrev P_Style_of : List Str := ["cls", "kinds", "gap", "least"]
abbrev N_Style_gap : List Str := ["self"]
abbrev P_Style_gap : List Str := ["self"]
abbrev N_Style_least : List Str := ["self"]
abbrev P_Style_least : List Str := ["self"]
abbrev N__law_source : List Str := ["_law_script", "_law_mix", "_law_cell"]
abbrev P__law_source : List Str := ["_law_script"]
abbrev N__law_pick : List Str := ["_law_source_here", "_law_many", "_law_found", "_law_mix"]
abbrev P__law_pick : List Str := ["_law_source_here", "_law_many"]
abbrev N__law_look : List Str := ["_law_source_here", "_law_wide"]
abbrev P__law_look : List Str := ["_law_source_here", "_law_wide"]
abbrev N__law_named : List Str := ["_law_source_here", "_law_look_here", "_law_names"]
abbrev P__law_named : List Str := ["_law_source_here", "_law_look_here"]
abbrev N__law_grid : List Str := ["_law_source_here", "_law_rows", "_law_cells", "_law_wide", "_law_found", "_law_k", "_law_many", "_law_turn"]
abbrev P__law_grid : List Str := ["_law_source_here", "_law_rows", "_law_cells", "_law_wide"]
abbrev N__law_span : List Str := ["_law_grid_here", "_law_look_here", "_law_row", "_law_spot", "_law_first", "_law_last", "_law_cells"]
abbrev P__law_span : List Str := ["_law_grid_here", "_law_look_here", "_law_row", "_law_spot"]
abbrev N__law_ends : List Str := ["_law_grid_here", "_law_look_here", "_law_found", "_law_row", "_law_cells", "_law_spot"]
abbrev P__law_ends : List Str := ["_law_grid_here", "_law_look_here"]
abbrev N__law_grown : List Str := ["_law_grid_here", "_law_look_here", "_law_sizes_here", "_law_times", "_law_factor", "_law_front", "_law_found", "_law_cells", "_law_turn", "_law_cell"]
abbrev P__law_grown : List Str := ["_law_grid_here", "_law_look_here", "_law_sizes_here"]
abbrev N__law_sizes : List Str := ["_law_source_here", "_law_grid_here", "_law_cells", "_law_most", "_law_front", "_law_here", "_law_times", "_law_one"]
abbrev P__law_sizes : List Str := ["_law_source_here", "_law_grid_here", "_law_cells"]
abbrev N__law_sum : List Str := ["_law_pieces", "_law_room", "_law_low", "_law_high", "_law_slope"]
abbrev P__law_sum : List Str := ["_law_pieces", "_law_room"]
abbrev N__law_refused : List Str := ["_law_grid_here", "_law_named_here", "_law_amount"]
abbrev P__law_refused : List Str := ["_law_grid_here", "_law_named_here", "_law_amount"]
abbrev N__law_right : List Str := ["_law_source_here", "_law_grid_here", "_law_look_here", "_law_named_here", "_law_pieces", "_law_bottom", "_law_top", "_law_most", "_law_asks", "_law_low", "_law_high", "_law_slope", "_law_rooms", "_law_amount", "_law_one", "_law_two"]
abbrev P__law_right : List Str := ["_law_source_here", "_law_grid_here", "_law_look_here"]
abbrev N_law : List Str := ["_law_script", "_law_source_here", "_law_lap", "_law_wide", "_law_grid_here", "_law_look_here", "_law_great", "_law_wide_look"]
abbrev P_law : List Str := ["_law_script"]
def conNAMES (C_Kind : Addr) : List (Addr × D) := [(C_Kind, .tup ((["left", "right", "center"] : List Str).map D.str))]
def T_is_integer : TSd :=
  (sRet (dAnd (dCB cIsi (lCons (dVar 0) (lCons (dC (.ty "int")) lNil))) (dAnd (dNot (dCB cIsi (lCons (dVar 0) (lCons (dC (.ty "bool")) lNil)))) (dChain dLe dLe (dVar 1) (dVar 0) (dVar 2)))))
def T_is_cell : TSd :=
  (sRet (dCall sp_is_integer (lCons (dVar 0) (lCons (dC (.int 0)) (lCons (dC (.int 1000000000000000000000000000000)) lNil)))))
def T_is_line : TSd :=
  (sRet (dAnd (dCB cIsi (lCons (dVar 0) (lCons (dC (.ty "list")) lNil))) (dAnd (dChain dLe dLe (dC (.int 1)) (dCB cLen (lCons (dVar 0) lNil)) (dC (.int 12))) (dCB cAll (lCons (dLc (iSeq (dVar 0)) (nmG 1) bYes (dCall sp_is_cell (lCons (dVar 1) lNil)) [1] finF) lNil)))))
def T_is_table : TSd :=
  (sRet (dAnd (dCB cIsi (lCons (dVar 0) (lCons (dC (.ty "list")) lNil))) (dAnd (dChain dLe dLe (dC (.int 1)) (dCB cLen (lCons (dVar 0) lNil)) (dC (.int 60))) (dCB cAll (lCons (dLc (iSeq (dVar 0)) (nmG 1) bYes (dCall sp_is_line (lCons (dVar 1) lNil)) [1] finF) lNil)))))
def T_need_table (C_InvalidTable : Addr) : TSd :=
  (sIf (bNot (bOf (dCall sp_is_table (lCons (dVar 0) lNil))))
  (sRaise C_InvalidTable)
  sNext)
def T_tabs_in : TSd :=
  (sRet (dLc (iSeq (dVar 0)) (nmG 1) bYes (dOp dSub (dCB cLen (lCons (dVar 1) lNil)) (dC (.int 1))) [1] finF))
def T_blocks_of_column : TSd :=
  (sSeq (sAsg (dLstO lNil) (nmG 2))
  (sSeq (sAsg (dC .non) (nmG 3))
  (sSeq (sFor (iEnumD (lCons (dLst (lStar (dVar 0) (lCons (dC (.int 0)) lNil))) lNil)) (tupG 2 (gsCons (nmG 4) (gsCons (nmG 5) gsNil)))
  (sSeq (sJ (sIf (bAnd (bOf (dOp dGt (dVar 5) (dVar 1))) (bOf (dOp dIsN (dVar 3) (dC .non))))
  (sAsg (dVar 4) (nmG 3))
  sNext))
  (sJ (sIf (bAnd (bOf (dOp dLe (dVar 5) (dVar 1))) (bOf (dOp dNotN (dVar 3) (dC .non))))
  (sSeq (sDrop (dBM mAppend (dVar 2) (lCons (dTup (lCons (dVar 1) (lCons (dVar 3) (lCons (dOp dSub (dVar 4) (dC (.int 1))) lNil)))) lNil)))
  (sAsg (dC .non) (nmG 3)))
  sNext))))
  (sRet (dFz (dVar 2))))))
def T_blocks_by_tabs : TSd :=
  (sSeq (sAsg (dLstO lNil) (nmG 1))
  (sSeq (sFor (iRg1 (lCons (dOp dSub (dC (.int 12)) (dC (.int 1))) lNil)) (nmG 2)
  (sDrop (dBM mExtend (dVar 1) (lCons (dCall sp_blocks_of_column (lCons (dVar 0) (lCons (dVar 2) lNil))) lNil))))
  (sRet (dFz (dVar 1)))))
def T_blocks_in : TSd :=
  (sRet (dCall sp_blocks_by_tabs (lCons (dCall sp_tabs_in (lCons (dVar 0) lNil)) lNil)))
def T_greatest_in : TSd :=
  (sSeq (sAsg (dVar 1) (tupG 3 (gsCons (nmG 2) (gsCons (nmG 3) (gsCons (nmG 4) gsNil)))))
  (sRet (dCB cMax (lCons (dLc (iSeq (dSl dSlL (dVar 0) (oSome (dVar 3)) (oSome (dOp dAdd (dVar 4) (dC (.int 1)))))) (nmG 5) bYes (dOp dIx (dVar 5) (dVar 2)) [5] finF) lNil))))
def T_room_of (C_Style : Addr) : TSd :=
  (sRet (dCB cMax2 (lCons (dPropA C_Style (pkP 1 [0] [] (sp_Style_least C_Style)) (dVar 1)) (lCons (dCall sp_greatest_in (lCons (dVar 0) (lCons (dVar 2) lNil))) lNil))))
def T_rooms_in (C_Style : Addr) : TSd :=
  (sSeq (sAsg (dLc (iSeq (dVar 0)) (nmG 6) bYes (dLstO lNil) [6] finO) (nmG 2))
  (sSeq (sFor (iSeq (dCall sp_blocks_in (lCons (dVar 0) lNil))) (nmG 3)
  (sSeq (sAsg (dCall (sp_room_of C_Style) (lCons (dVar 0) (lCons (dVar 1) (lCons (dVar 3) lNil)))) (nmG 4))
  (sFor (iRg2 (lCons (dOp dIx (dVar 3) (dC (.int 1))) (lCons (dOp dAdd (dOp dIx (dVar 3) (dC (.int 2))) (dC (.int 1))) lNil))) (nmG 5)
  (sDrop (dBM mAppend (dOp dIx (dVar 2) (dVar 5)) (lCons (dVar 4) lNil))))))
  (sRet (dVar 2))))
def T_stops_in (C_Style : Addr) : TSd :=
  (sSeq (sAsg (dLstO lNil) (nmG 2))
  (sSeq (sFor (iSeq (dFz2 (dCall (sp_rooms_in C_Style) (lCons (dVar 0) (lCons (dVar 1) lNil))))) (nmG 3)
  (sSeq (sPar 4 5 (lCons (dC (.int 0)) (lCons (dLstO lNil) lNil)))
  (sSeq (sFor (iSeq (dVar 3)) (nmG 6)
  (sSeq (sAug 4 (dOp dAdd (dVar 6) (dPropA C_Style (pkP 1 [0] [] (sp_Style_gap C_Style)) (dVar 1))) dAddI)
  (sDrop (dBM mAppend (dVar 5) (lCons (dVar 4) lNil)))))
  (sDrop (dBM mAppend (dVar 2) (lCons (dFz (dVar 5)) lNil))))))
  (sRet (dFz (dVar 2)))))
def T_ends_in (C_Style : Addr) : TSd :=
  (sSeq (sAsg (dLstO lNil) (nmG 2))
  (sSeq (sFor (iZipD (lCons (dVar 0) (lCons (dCall (sp_stops_in C_Style) (lCons (dVar 0) (lCons (dVar 1) lNil))) lNil))) (tupG 2 (gsCons (nmG 3) (gsCons (nmG 4) gsNil)))
  (sSeq (sAsg (dJ (dIf (bOf (dOp dNe (dVar 4) (dLst lNil))) (dOp dIx (dVar 4) (dUn uNeg (dC (.int 1)))) (dC (.int 0)))) (nmG 5))
  (sDrop (dBM mAppend (dVar 2) (lCons (dOp dAdd (dVar 5) (dOp dIx (dVar 3) (dUn uNeg (dC (.int 1))))) lNil)))))
  (sRet (dFz (dVar 2)))))
def T_bottom_of : TSd :=
  (sRet (dOp dSub (dOp dIx (dVar 0) (dC (.int 0))) (dCB cSum (lCons (dLc (iSeq (dOp dIx (dVar 0) (dC (.int 1)))) (tupG 2 (gsCons (nmG 1) (gsCons (nmG 2) gsNil))) bYes (dVar 1) [1, 2] finF) lNil))))
def T_block_steps : TSd :=
  (sSeq (sPar 2 3 (lCons (dLstO lNil) (lCons (dC (.int 0)) lNil)))
  (sSeq (sAsg (dRev (dSI (dLc (iSeq (dVar 0)) (nmG 7) (bOf (dOp dGt (dVar 7) (dVar 1))) (dVar 7) [7] finF))) (nmG 4))
  (sSeq (sFor (iZipD (lCons (dVar 4) (lCons (dOp dAdd (dSl dSlL (dVar 4) (oSome (dC (.int 1))) oNone) (dLst (lCons (dVar 1) lNil))) lNil))) (tupG 2 (gsCons (nmG 5) (gsCons (nmG 6) gsNil)))
  (sSeq (sAug 3 (dCB cLen (lCons (dLc (iSeq (dVar 0)) (nmG 7) (bOf (dOp dEqF (dVar 7) (dVar 5))) (dVar 7) [7] finF) lNil)) dAddI)
  (sDrop (dBM mAppend (dVar 2) (lCons (dTup (lCons (dOp dSub (dVar 5) (dVar 6)) (lCons (dVar 3) lNil))) lNil)))))
  (sRet (dFz (dVar 2))))))
def T_merged_steps : TSd :=
  (sSeq (sAsg dNewK (nmG 2))
  (sSeq (sFor (iSeq (dOp dAdd (dVar 0) (dVar 1))) (tupG 2 (gsCons (nmG 3) (gsCons (nmG 4) gsNil)))
  (sDkp (dOp dAdd (dDGet2 (dVar 2) (dVar 4) (dC (.int 0))) (dVar 3)) (dVar 2) (dVar 4)))
  (sRet (dLc (iSeq (dSD false (dVar 2))) (nmG 4) bYes (dTup (lCons (dDGet (dVar 2) (dVar 4)) (lCons (dVar 4) lNil))) [4] finF))))
def T_summed_curve : TSd :=
  (sSeq (sAsg (dCB cMax (lCons (dLc (iSeq (dVar 0)) (nmG 12) bYes (dCall sp_bottom_of (lCons (dVar 12) lNil)) [12] finF) lNil)) (nmG 1))
  (sSeq (sAsg dNewK (nmG 2))
  (sSeq (sFor (iSeq (dVar 0)) (tupG 2 (gsCons (nmG 3) (gsCons (nmG 4) gsNil)))
  (sSeq (sPar 5 6 (lCons (dVar 3) (lCons (dC (.int 0)) lNil)))
  (sFor (iSeq (dVar 4)) (tupG 2 (gsCons (nmG 7) (gsCons (nmG 8) gsNil)))
  (sSeq (sDkp (dOp dSub (dOp dAdd (dDGet2 (dVar 2) (dVar 5) (dC (.int 0))) (dVar 8)) (dVar 6)) (dVar 2) (dVar 5))
  (sPar 5 6 (lCons (dOp dSub (dVar 5) (dVar 7)) (lCons (dVar 8) lNil)))))))
  (sSeq (sAsg (dLc (iSeq (dSD true (dVar 2))) (nmG 5) (bOf (dOp dGt (dVar 5) (dVar 1))) (dVar 5) [5] finF) (nmG 9))
  (sSeq (sPar 10 8 (lCons (dLstO lNil) (lCons (dC (.int 0)) lNil)))
  (sSeq (sFor (iZipD (lCons (dVar 9) (lCons (dOp dAdd (dSl dSlL (dVar 9) (oSome (dC (.int 1))) oNone) (dLst (lCons (dVar 1) lNil))) lNil))) (tupG 2 (gsCons (nmG 5) (gsCons (nmG 11) gsNil)))
  (sSeq (sAug 8 (dDGet (dVar 2) (dVar 5)) dAddI)
  (sDrop (dBM mAppend (dVar 10) (lCons (dTup (lCons (dOp dSub (dVar 5) (dVar 11)) (lCons (dVar 8) lNil))) lNil)))))
  (sRet (dTup (lCons (dCB cMax (lCons (dLc (iSeq (dVar 0)) (tupG 2 (gsCons (nmG 3) (gsCons (nmG 4) gsNil))) bYes (dVar 3) [3, 4] finF) lNil)) (lCons (dCall sp_merged_steps (lCons (dFz (dVar 10)) (lCons (dLst lNil) lNil))) lNil))))))))))
def T_run_end : TSd :=
  (sSeq (sAsg (dVar 2) (nmG 3))
  (sSeq (sWhile (bAnd (bOf (dOp dLt (dOp dAdd (dVar 3) (dC (.int 1))) (dCB cLen (lCons (dVar 0) lNil)))) (bOf (dOp dGt (dCB cLen (lCons (dOp dIx (dVar 0) (dOp dAdd (dVar 3) (dC (.int 1)))) lNil)) (dOp dAdd (dVar 1) (dC (.int 1))))))
  (sAug 3 (dC (.int 1)) dAddI))
  (sRet (dVar 3))))
def T_lines_curve (sp_rec : DSpec) : TSd :=
  (sSeq (sPar 6 7 (lCons (dLstO lNil) (lCons (dVar 4) lNil)))
  (sSeq (sWhile (bOf (dOp dLe (dVar 7) (dVar 5)))
  (sJ (sIf (bOf (dOp dLe (dCB cLen (lCons (dOp dIx (dVar 0) (dVar 7)) lNil)) (dOp dAdd (dVar 3) (dC (.int 1)))))
  (sSeq (sAsg (dOp dIx (dOp dIx (dVar 0) (dVar 7)) (dUn uNeg (dC (.int 1)))) (nmG 8))
  (sSeq (sDrop (dBM mAppend (dVar 6) (lCons (dTup (lCons (dOp dIx (dVar 2) (dVar 7)) (lCons (dJ (dIf (bOf (dOp dGt (dVar 8) (dC (.int 0)))) (dLst (lCons (dTup (lCons (dVar 8) (lCons (dC (.int 1)) lNil))) lNil)) (dLst lNil))) lNil))) lNil)))
  (sAug 7 (dC (.int 1)) dAddI)))
  (sSeq (sAsg (dCall sp_run_end (lCons (dVar 0) (lCons (dVar 3) (lCons (dVar 7) lNil)))) (nmG 9))
  (sSeq (sAsg (dCall sp_rec (lCons (dVar 0) (lCons (dVar 1) (lCons (dVar 2) (lCons (dOp dAdd (dVar 3) (dC (.int 1))) (lCons (dVar 7) (lCons (dVar 9) lNil))))))) (tupG 2 (gsCons (nmG 10) (gsCons (nmG 11) gsNil))))
  (sSeq (sAsg (dCall sp_block_steps (lCons (dLc (iSeq (dSl dSlL (dVar 0) (oSome (dVar 7)) (oSome (dOp dAdd (dVar 9) (dC (.int 1)))))) (nmG 13) bYes (dOp dIx (dVar 13) (dVar 3)) [13] finF) (lCons (dVar 1) lNil))) (nmG 12))
  (sSeq (sDrop (dBM mAppend (dVar 6) (lCons (dTup (lCons (dVar 10) (lCons (dCall sp_merged_steps (lCons (dVar 12) (lCons (dVar 11) lNil))) lNil))) lNil)))
  (sAsg (dOp dAdd (dVar 9) (dC (.int 1))) (nmG 7)))))))))
  (sRet (dCall sp_summed_curve (lCons (dFz (dVar 6)) lNil)))))
def T_page_curve (C_Style : Addr) : TSd :=
  (sRet (dCall (sp_lines_curve 12) (lCons (dVar 0) (lCons (dPropA C_Style (pkP 1 [0] [] (sp_Style_least C_Style)) (dVar 1)) (lCons (dCall (sp_ends_in C_Style) (lCons (dVar 0) (lCons (dVar 1) lNil))) (lCons (dC (.int 0)) (lCons (dC (.int 0)) (lCons (dOp dSub (dCB cLen (lCons (dVar 0) lNil)) (dC (.int 1))) lNil))))))))
def T_narrowest (C_Style : Addr) : TSd :=
  (sSeq (sDrop (dCall sp_need_table (lCons (dVar 0) lNil)))
  (sRet (dCall sp_bottom_of (lCons (dCall (sp_page_curve C_Style) (lCons (dVar 0) (lCons (dVar 1) lNil))) lNil))))
def T_slopes (C_Style : Addr) : TSd :=
  (sSeq (sDrop (dCall sp_need_table (lCons (dVar 0) lNil)))
  (sSeq (sAsg (dCall (sp_page_curve C_Style) (lCons (dVar 0) (lCons (dVar 1) lNil))) (tupG 2 (gsCons (nmG 2) (gsCons (nmG 3) gsNil))))
  (sSeq (sAsg (dLstO lNil) (nmG 4))
  (sSeq (sFor (iSeq (dVar 3)) (tupG 2 (gsCons (nmG 5) (gsCons (nmG 6) gsNil)))
  (sSeq (sDrop (dBM mAppend (dVar 4) (lCons (dTup (lCons (dOp dSub (dVar 2) (dVar 5)) (lCons (dVar 2) (lCons (dVar 6) lNil)))) lNil)))
  (sAug 2 (dVar 5) dSubI)))
  (sRet (dFz (dRev (dVar 4))))))))
def T_width_for (C_InvalidNumber C_Style : Addr) : TSd :=
  (sSeq (sDrop (dCall sp_need_table (lCons (dVar 0) lNil)))
  (sSeq (sIf (bOr (bOf (dCB cIsi (lCons (dVar 2) (lCons (dC (.ty "bool")) lNil)))) (bOf (dOp dLt (dVar 2) (dC (.int 0)))))
  (sRaise C_InvalidNumber)
  sNext)
  (sSeq (sAsg (dCall (sp_page_curve C_Style) (lCons (dVar 0) (lCons (dVar 1) lNil))) (tupG 2 (gsCons (nmG 3) (gsCons (nmG 4) gsNil))))
  (sSeq (sAsg (dVar 2) (nmG 5))
  (sSeq (sFor (iSeq (dVar 4)) (tupG 2 (gsCons (nmG 6) (gsCons (nmG 7) gsNil)))
  (sSeq (sAsg (dCB cMin2 (lCons (dVar 6) (lCons (dOp dDiv (dVar 5) (dVar 7)) lNil))) (nmG 8))
  (sSeq (sAug 3 (dVar 8) dSubI)
  (sSeq (sAug 5 (dOp dMul (dVar 8) (dVar 7)) dSubI)
  (sIf (bOf (dOp dLt (dVar 8) (dVar 6)))
  sBrk
  sNext)))))
  (sRet (dVar 3)))))))
def T_are_kinds (C_Kind : Addr) : TSd :=
  (sSeq (sIf (bOr (bNot (bOf (dCB cIsi (lCons (dVar 0) (lCons (dC (.ty "list")) lNil))))) (bNot (bOf (dChain dLe dLe (dC (.int 1)) (dCB cLen (lCons (dVar 0) lNil)) (dC (.int 12))))))
  (sRet (dC (.bl false)))
  sNext)
  (sRet (dCB cAll (lCons (dLc (iSeq (dVar 0)) (nmG 1) bYes (dAnd (dCB cIsi (lCons (dVar 1) (lCons (dC (.ty "str")) lNil))) (dOp (dIn false) (dVar 1) (dCVal (conNAMES C_Kind) "NAMES" (dC (.obj C_Kind))))) [1] finF) lNil))))
def T_Style___init__ (C_InvalidStyle C_Style : Addr) : TSd :=
  (sSeq (sAsg (dJ (dIf (bOf (dOp dGt (dCB cLen (lCons (dVar 3) lNil)) (dC (.int 0)))) (dCB cList (lCons (dVar 3) lNil)) (dLst (lCons (dC (.str "left")) lNil)))) (nmG 4))
  (sSeq (sIf (bOr (bNot (bOf (dCall sp_are_kinds (lCons (dVar 4) lNil)))) (bOr (bNot (bOf (dCall sp_is_cell (lCons (dVar 1) lNil)))) (bNot (bOf (dCall sp_is_cell (lCons (dVar 2) lNil))))))
  (sRaise C_InvalidStyle)
  sNext)
  (sSeq (sFldS C_Style "held_kinds" (dVar 0) (dVar 4))
  (sSeq (sFldS C_Style "held_gap" (dVar 0) (dVar 1))
  (sFldS C_Style "held_least" (dVar 0) (dVar 2))))))
def T_Style_of (C_InvalidStyle C_Style : Addr) : TSd :=
  (sSeq (sIf (bNot (bOf (dCall sp_are_kinds (lCons (dVar 1) lNil))))
  (sRaise C_InvalidStyle)
  sNext)
  (sRet (dMakeV 0 C_Style (pkS true 1 [0, 1, 2] [] (sp_Style___init__ C_Style)) (dLone (dVar 1) (lCons (dVar 2) (lCons (dVar 3) lNil)) 2))))
def T_Style_gap (C_Style : Addr) : TSd :=
  (sRet (dFld C_Style "held_gap" (dVar 0)))
def T_Style_least (C_Style : Addr) : TSd :=
  (sRet (dFld C_Style "held_least" (dVar 0)))
def T__law_source : TSd :=
  (sSeq (sAsg (dOp dPow (dC (.int 19)) (dC (.int 27))) (nmG 1))
  (sSeq (sFor (iSeq (dSl dSlL (dVar 0) oNone (oSome (dC (.int 40))))) (nmG 2)
  (sAsg (dOp dMod (dOp dAdd (dOp dMul (dVar 1) (dC (.int 2862933555777941))) (dVar 2)) (dC (.int 170141183460469231731687303715884105727))) (nmG 1)))
  (sRet (dLstO (lCons (dLc (iSeq (dSl dSlL (dVar 0) oNone (oSome (dC (.int 40))))) (nmG 2) (bOf (dOp dGe (dCB cAbs (lCons (dVar 2) lNil)) (dOp dPow (dC (.int 10)) (dC (.int 18))))) (dCB cAbs (lCons (dVar 2) lNil)) [2] finO) (lCons (dVar 1) (lCons (dC (.int 0)) lNil)))))))
def T__law_pick : TSd :=
  (sSeq (sWhile (bAnd (bOf (dOp dNe (dOp dIx (dVar 0) (dC (.int 0))) (dLst lNil))) (bOf (dOp dLt (dOp dIx (dOp dIx (dVar 0) (dC (.int 0))) (dC (.int 0))) (dC (.int 2)))))
  (sDrop (dBM mPopAt (dOp dIx (dVar 0) (dC (.int 0))) (lCons (dC (.int 0)) lNil))))
  (sSeq (sIf (bOf (dOp dNe (dOp dIx (dVar 0) (dC (.int 0))) (dLst lNil)))
  (sSeq (sAsg (dOp dMod (dOp dIx (dOp dIx (dVar 0) (dC (.int 0))) (dC (.int 0))) (dVar 1)) (nmG 2))
  (sSeq (sAsg (dOp dDiv (dOp dIx (dOp dIx (dVar 0) (dC (.int 0))) (dC (.int 0))) (dVar 1)) (subG dSetO (dOp dIx (dVar 0) (dC (.int 0))) (dC (.int 0))))
  (sRet (dVar 2))))
  sNext)
  (sSeq (sAsg (dOp dAdd (dOp dIx (dVar 0) (dC (.int 2))) (dC (.int 1))) (subG dSetO (dVar 0) (dC (.int 2))))
  (sSeq (sAsg (dOp dAdd (dOp dMul (dOp dIx (dVar 0) (dC (.int 1))) (dOp dIx (dVar 0) (dC (.int 1)))) (dOp dMul (dOp dMul (dC (.int 52711)) (dOp dIx (dVar 0) (dC (.int 2)))) (dOp dIx (dVar 0) (dC (.int 2))))) (nmG 3))
  (sSeq (sAsg (dOp dMod (dOp dAdd (dVar 3) (dOp dMul (dC (.int 23)) (dOp dIx (dVar 0) (dC (.int 2))))) (dC (.int 170141183460469231731687303715884105727))) (subG dSetO (dVar 0) (dC (.int 1))))
  (sRet (dOp dMod (dOp dDiv (dOp dIx (dVar 0) (dC (.int 1))) (dOp dPow (dC (.int 2)) (dC (.int 41)))) (dVar 1))))))))
def T__law_look : TSd :=
  (sRet (dTup (lCons (dCall sp__law_pick (lCons (dVar 0) (lCons (dC (.int 3)) lNil))) (lCons (dOp dIx (dLst (lCons (dC (.int 0)) (lCons (dC (.int 0)) (lCons (dCall sp__law_pick (lCons (dVar 0) (lCons (dOp dAdd (dVar 1) (dC (.int 1))) lNil))) lNil)))) (dCall sp__law_pick (lCons (dVar 0) (lCons (dC (.int 3)) lNil)))) lNil))))
def T__law_named (C_Style : Addr) : TSd :=
  (sSeq (sAsg (dOp dIx (dLst (lCons (dLst (lCons (dC (.str "left")) lNil)) (lCons (dLst (lCons (dC (.str "right")) (lCons (dC (.str "center")) lNil))) (lCons (dLst (lCons (dC (.str "center")) (lCons (dC (.str "left")) (lCons (dC (.str "right")) lNil)))) lNil)))) (dCall sp__law_pick (lCons (dVar 0) (lCons (dC (.int 3)) lNil)))) (nmG 2))
  (sRet (dCMethA C_Style (pkP 4 [0, 1, 2, 3] [] (sp_Style_of C_Style)) (dC (.obj C_Style)) (d2 (lCons (dVar 2) (lCons (dOp dIx (dVar 1) (dC (.int 0))) (lCons (dOp dIx (dVar 1) (dC (.int 1))) lNil))) lNil 0))))
def T__law_grid : TSd :=
  (sSeq (sAsg (dLstO lNil) (nmG 4))
  (sSeq (sFor (iRg1 (lCons (dOp dAdd (dC (.int 1)) (dCall sp__law_pick (lCons (dVar 0) (lCons (dVar 1) lNil)))) lNil)) (nmG 5)
  (sSeq (sAsg (dOp dIx (dLst (lCons (dOp dAdd (dC (.int 1)) (dCall sp__law_pick (lCons (dVar 0) (lCons (dVar 2) lNil)))) (lCons (dVar 2) (lCons (dCB cMax2 (lCons (dC (.int 1)) (lCons (dOp dSub (dVar 2) (dC (.int 1))) lNil))) lNil)))) (dCall sp__law_pick (lCons (dVar 0) (lCons (dC (.int 3)) lNil)))) (nmG 6))
  (sDrop (dBM mAppend (dVar 4) (lCons (dLc (iRg1 (lCons (dVar 6) lNil)) (nmG 7) bYes (dCall sp__law_pick (lCons (dVar 0) (lCons (dVar 3) lNil))) [7] finF) lNil)))))
  (sRet (dFz (dVar 4)))))
def T__law_span : TSd :=
  (sSeq (sPar 4 5 (lCons (dVar 2) (lCons (dVar 2) lNil)))
  (sSeq (sWhile (bAnd (bOf (dOp dGt (dVar 4) (dC (.int 0)))) (bOf (dOp dGt (dCB cLen (lCons (dOp dIx (dVar 0) (dOp dSub (dVar 4) (dC (.int 1)))) lNil)) (dOp dAdd (dVar 3) (dC (.int 1))))))
  (sAsg (dOp dSub (dVar 4) (dC (.int 1))) (nmG 4)))
  (sSeq (sWhile (bAnd (bOf (dOp dLt (dOp dAdd (dVar 5) (dC (.int 1))) (dCB cLen (lCons (dVar 0) lNil)))) (bOf (dOp dGt (dCB cLen (lCons (dOp dIx (dVar 0) (dOp dAdd (dVar 5) (dC (.int 1)))) lNil)) (dOp dAdd (dVar 3) (dC (.int 1))))))
  (sAsg (dOp dAdd (dVar 5) (dC (.int 1))) (nmG 5)))
  (sRet (dOp dAdd (dCB cMax (lCons (dOp dAdd (dLst (lCons (dOp dIx (dVar 1) (dC (.int 1))) lNil)) (dLc (iSeq (dSl dSlL (dVar 0) (oSome (dVar 4)) (oSome (dOp dAdd (dVar 5) (dC (.int 1)))))) (nmG 6) bYes (dOp dIx (dVar 6) (dVar 3)) [6] finF)) lNil)) (dOp dIx (dVar 1) (dC (.int 0))))))))
def T__law_ends : TSd :=
  (sSeq (sAsg (dLstO lNil) (nmG 2))
  (sSeq (sFor (iEnumD (lCons (dVar 0) lNil)) (tupG 2 (gsCons (nmG 3) (gsCons (nmG 4) gsNil)))
  (sDrop (dBM mAppend (dVar 2) (lCons (dOp dAdd (dCB cSum (lCons (dLc (iRg1 (lCons (dOp dSub (dCB cLen (lCons (dVar 4) lNil)) (dC (.int 1))) lNil)) (nmG 5) bYes (dCall sp__law_span (lCons (dVar 0) (lCons (dVar 1) (lCons (dVar 3) (lCons (dVar 5) lNil))))) [5] finF) lNil)) (dOp dIx (dVar 4) (dUn uNeg (dC (.int 1))))) lNil))))
  (sRet (dFz (dVar 2)))))
def T__law_grown : TSd :=
  (sSeq (sAsg (dVar 2) (tupG 3 (gsCons (nmG 3) (gsCons (nmG 4) (gsCons (nmG 5) gsNil)))))
  (sSeq (sAsg (dLstO lNil) (nmG 6))
  (sSeq (sFor (iSeq (dVar 0)) (nmG 7)
  (sFor (iRg1 (lCons (dVar 3) lNil)) (nmG 8)
  (sDrop (dBM mAppend (dVar 6) (lCons (dOp dAdd (dOp dMul (dLst (lCons (dC (.int 0)) lNil)) (dVar 5)) (dLc (iSeq (dVar 7)) (nmG 9) bYes (dOp dMul (dVar 9) (dVar 4)) [9] finF)) lNil)))))
  (sRet (dTup (lCons (dFz (dVar 6)) (lCons (dTup (lCons (dOp dMul (dOp dIx (dVar 1) (dC (.int 0))) (dVar 4)) (lCons (dOp dMul (dOp dIx (dVar 1) (dC (.int 1))) (dVar 4)) lNil))) lNil)))))))
def T__law_sizes : TSd :=
  (sSeq (sAsg (dCB cMax (lCons (dLc (iSeq (dVar 1)) (nmG 7) bYes (dCB cLen (lCons (dVar 7) lNil)) [7] finF) lNil)) (nmG 3))
  (sSeq (sAsg (dOp dIx (dLst (lCons (dC (.int 0)) (lCons (dCall sp__law_pick (lCons (dVar 0) (lCons (dOp dSub (dC (.int 13)) (dVar 3)) lNil))) lNil))) (dCall sp__law_pick (lCons (dVar 0) (lCons (dC (.int 2)) lNil)))) (nmG 4))
  (sSeq (sAsg (dCB cSum (lCons (dLc (iSeq (dVar 1)) (nmG 7) bYes (dOp dAdd (dCB cLen (lCons (dVar 7) lNil)) (dVar 4)) [7] finF) lNil)) (nmG 5))
  (sSeq (sJ (sIf (bOf (dOp dGt (dVar 5) (dVar 2)))
  (sAsg (dTup (lCons (dC (.int 0)) (lCons (dCB cSum (lCons (dLc (iSeq (dVar 1)) (nmG 7) bYes (dCB cLen (lCons (dVar 7) lNil)) [7] finF) lNil)) lNil))) (tupG 2 (gsCons (nmG 4) (gsCons (nmG 5) gsNil))))
  sNext))
  (sSeq (sAsg (dOp dAdd (dC (.int 1)) (dCall sp__law_pick (lCons (dVar 0) (lCons (dCB cMax2 (lCons (dC (.int 1)) (lCons (dCB cMin2 (lCons (dOp dDiv (dC (.int 60)) (dCB cLen (lCons (dVar 1) lNil))) (lCons (dOp dDiv (dVar 2) (dVar 5)) lNil))) lNil))) lNil)))) (nmG 6))
  (sRet (dTup (lCons (dVar 6) (lCons (dOp dIx (dLst (lCons (dC (.int 1)) (lCons (dC (.int 3)) (lCons (dOp dPow (dC (.int 10)) (dC (.int 29))) (lCons (dOp dSub (dOp dPow (dC (.int 10)) (dC (.int 29))) (dCall sp__law_pick (lCons (dVar 0) (lCons (dOp dPow (dC (.int 10)) (dC (.int 20))) lNil)))) lNil))))) (dCall sp__law_pick (lCons (dVar 0) (lCons (dC (.int 4)) lNil)))) (lCons (dVar 4) lNil))))))))))
def T__law_sum : TSd :=
  (sRet (dCB cSum (lCons (dLc (iSeq (dVar 0)) (tupG 3 (gsCons (nmG 2) (gsCons (nmG 3) (gsCons (nmG 4) gsNil)))) bYes (dOp dMul (dVar 4) (dCB cMax2 (lCons (dC (.int 0)) (lCons (dOp dSub (dVar 3) (dCB cMax2 (lCons (dVar 2) (lCons (dVar 1) lNil)))) lNil)))) [2, 3, 4] finF) lNil)))
def T__law_refused (C_InvalidNumber C_Style : Addr) : TSd :=
  (sSeq (sTryC [C_InvalidNumber] (.bl true) (sDrop (dCall (sp_width_for C_Style C_InvalidNumber) (lCons (dVar 0) (lCons (dVar 1) (lCons (dVar 2) lNil))))))
  (sRet (dC (.bl false))))
def T__law_right (C_Style C_InvalidNumber : Addr) : TSd :=
  (sSeq (sPar 3 4 (lCons (dFzI (dCall (sp__law_named C_Style) (lCons (dVar 0) (lCons (dVar 2) lNil)))) (lCons (dLst lNil) lNil)))
  (sSeq (sPar 5 6 (lCons (dCall (sp_narrowest C_Style) (lCons (dVar 1) (lCons (dVar 3) lNil))) (lCons (dCB cMax (lCons (dCall sp__law_ends (lCons (dVar 1) (lCons (dVar 2) lNil))) lNil)) lNil)))
  (sSeq (sAsg (dCall (sp_slopes C_Style) (lCons (dVar 1) (lCons (dVar 3) lNil))) (nmG 4))
  (sSeq (sIf (bOr (bAnd (bOf (dOp dNe (dVar 4) (dLst lNil))) (bOr (bOf (dOp dNeF (dOp dIx (dOp dIx (dVar 4) (dC (.int 0))) (dC (.int 0))) (dVar 5))) (bOf (dOp dNeF (dOp dIx (dOp dIx (dVar 4) (dUn uNeg (dC (.int 1)))) (dC (.int 1))) (dVar 6))))) (bAnd (bOf (dOp dEq (dVar 4) (dLst lNil))) (bOf (dOp dNeF (dVar 5) (dVar 6)))))
  (sRet (dC (.bl false)))
  sNext)
  (sSeq (sIf (bOf (dOp dNe (dLc (iZipD (lCons (dVar 4) (lCons (dSl dSlL (dVar 4) (oSome (dC (.int 1))) oNone) lNil))) (tupG 2 (gsCons (nmG 14) (gsCons (nmG 15) gsNil))) (bOr (bOf (dOp dNeF (dOp dIx (dVar 14) (dC (.int 1))) (dOp dIx (dVar 15) (dC (.int 0))))) (bOf (dOp dLe (dOp dIx (dVar 14) (dC (.int 2))) (dOp dIx (dVar 15) (dC (.int 2)))))) (dVar 14) [14, 15] finF) (dLst lNil)))
  (sRet (dC (.bl false)))
  sNext)
  (sSeq (sAsg (dCall sp__law_sum (lCons (dVar 4) (lCons (dVar 5) lNil))) (nmG 7))
  (sSeq (sAsg (dLst (lCons (dC (.int 0)) (lCons (dC (.int 1)) (lCons (dVar 7) (lCons (dOp dAdd (dVar 7) (dC (.int 1))) (lCons (dOp dPow (dC (.int 10)) (dC (.int 59))) (lCons (dCall sp__law_pick (lCons (dVar 0) (lCons (dOp dAdd (dVar 7) (dC (.int 1))) lNil))) (lCons (dCall sp__law_pick (lCons (dVar 0) (lCons (dOp dPow (dC (.int 10)) (dC (.int 30))) lNil))) lNil)))))))) (nmG 8))
  (sSeq (sFor (iSeq (dOp dAdd (dSl dSlL (dVar 4) oNone (oSome (dC (.int 3)))) (dSl dSlL (dVar 4) (oSome (dUn uNeg (dC (.int 2)))) oNone))) (tupG 3 (gsCons (nmG 9) (gsCons (nmG 10) (gsCons (nmG 11) gsNil))))
  (sAsg (dOp dAdd (dVar 8) (dLst (lCons (dCall sp__law_sum (lCons (dVar 4) (lCons (dVar 9) lNil))) (lCons (dCB cMax2 (lCons (dC (.int 0)) (lCons (dOp dSub (dCall sp__law_sum (lCons (dVar 4) (lCons (dVar 9) lNil))) (dC (.int 1))) lNil))) (lCons (dOp dAdd (dCall sp__law_sum (lCons (dVar 4) (lCons (dVar 10) lNil))) (dVar 11)) lNil))))) (nmG 8)))
  (sSeq (sAsg (dLstO lNil) (nmG 12))
  (sSeq (sFor (iSeq (dCB cSortI (lCons (dVar 8) lNil))) (nmG 13)
  (sSeq (sDrop (dBM mAppend (dVar 12) (lCons (dCallK 0 3 (sp_width_for C_Style C_InvalidNumber) (fun as es => pick [2, 1, 0] as es) lNil (lCons (dVar 13) (lCons (dVar 3) (lCons (dVar 1) lNil)))) lNil)))
  (sSeq (sIf (bOr (bOf (dOp dGt (dCall sp__law_sum (lCons (dVar 4) (lCons (dOp dIx (dVar 12) (dUn uNeg (dC (.int 1)))) lNil))) (dVar 13))) (bNot (bOf (dChain dLe dLe (dVar 5) (dOp dIx (dVar 12) (dUn uNeg (dC (.int 1)))) (dVar 6)))))
  (sRet (dC (.bl false)))
  sNext)
  (sIf (bAnd (bOf (dOp dGt (dOp dIx (dVar 12) (dUn uNeg (dC (.int 1)))) (dVar 5))) (bOf (dOp dLe (dCall sp__law_sum (lCons (dVar 4) (lCons (dOp dSub (dOp dIx (dVar 12) (dUn uNeg (dC (.int 1)))) (dC (.int 1))) lNil))) (dVar 13))))
  (sRet (dC (.bl false)))
  sNext))))
  (sSeq (sIf (bOf (dOp dNe (dLst (lCons (dCall (sp_width_for C_Style C_InvalidNumber) (lCons (dVar 1) (lCons (dVar 3) (lCons (dC (.int 0)) lNil)))) (lCons (dCall (sp_width_for C_Style C_InvalidNumber) (lCons (dVar 1) (lCons (dVar 3) (lCons (dVar 7) lNil)))) lNil))) (dLst (lCons (dVar 6) (lCons (dVar 5) lNil)))))
  (sRet (dC (.bl false)))
  sNext)
  (sRet (dAnd (dOp dEq (dVar 12) (dRev (dCB cSortI (lCons (dVar 12) lNil)))) (dAnd (dCall (sp__law_refused C_Style C_InvalidNumber) (lCons (dVar 1) (lCons (dVar 3) (lCons (dUn uNeg (dC (.int 1))) lNil)))) (dCall (sp__law_refused C_Style C_InvalidNumber) (lCons (dVar 1) (lCons (dVar 3) (lCons (dOp dSub (dC (.int 0)) (dOp dPow (dC (.int 10)) (dC (.int 59)))) lNil))))))))))))))))))
def T_law : TSd :=
  (sSeq (sAsg (dCall sp__law_source (lCons (dVar 0) lNil)) (nmG 1))
  (sSeq (sFor (iRg1 (lCons (dOp dAdd (dC (.int 1)) (dCB cMin2 (lCons (dCB cLen (lCons (dVar 0) lNil)) (lCons (dC (.int 1)) lNil)))) lNil)) (nmG 2)
  (sSeq (sAsg (dOp dIx (dLst (lCons (dC (.int 3)) (lCons (dC (.int 9)) lNil))) (dCall sp__law_pick (lCons (dVar 1) (lCons (dC (.int 2)) lNil)))) (nmG 3))
  (sSeq (sAsg (dCall sp__law_grid (lCons (dVar 1) (lCons (dC (.int 12)) (lCons (dC (.int 5)) (lCons (dVar 3) lNil))))) (nmG 4))
  (sSeq (sAsg (dCall sp__law_look (lCons (dVar 1) (lCons (dOp dSub (dVar 3) (dC (.int 1))) lNil))) (nmG 5))
  (sSeq (sIf (bNot (bOf (dCall sp__law_right (lCons (dVar 1) (lCons (dVar 4) (lCons (dVar 5) lNil))))))
  (sRet (dC (.bl false)))
  sNext)
  (sSeq (sAsg (dCall sp__law_grown (lCons (dVar 4) (lCons (dVar 5) (lCons (dCall sp__law_sizes (lCons (dVar 1) (lCons (dVar 4) (lCons (dOp dIx (dLst (lCons (dC (.int 120)) (lCons (dC (.int 240)) lNil))) (dVar 2)) lNil)))) lNil)))) (tupG 2 (gsCons (nmG 6) (gsCons (nmG 7) gsNil))))
  (sIf (bNot (bOf (dCall sp__law_right (lCons (dVar 1) (lCons (dVar 6) (lCons (dVar 7) lNil))))))
  (sRet (dC (.bl false)))
  sNext)))))))
  (sRet (dC (.bl true)))))
local macro_rules | `(tactic| walk_at "dl") => `(tactic| ((try simp only [gstart, gwipe, List.set_set, List.map_cons, List.map_nil, List.length_cons, List.length_nil, rep_0, rep_s, List.cons_append, List.nil_append, List.set_cons_zero, List.set_cons_succ, Nat.reduceAdd, Nat.reduceSub, Nat.zero_add, Nat.add_zero]); (try simp only [↓dv0, ↓dv1, ↓dv2, ↓dv3, ↓dv4, ↓dv5, ↓dv6, ↓dv7, ↓dv8, ↓dv9, ↓dv10, ↓dv11, ↓dv12, ↓dv13, ↓dv14, ↓dv15, ↓dv16, ↓dv17, ↓dv18, ↓dv19, ↓dv20, ↓dv21, ↓dv22, ↓dv23, ↓dv24, ↓dv25, ↓dv26, ↓dv27, ↓dv28, ↓dv29, ↓dv30, ↓dv31, ↓dv32, ↓dv33, ↓dv34, ↓dv35, ↓dv36, ↓dv37, ↓dv38, ↓dv39, ↓nm0, ↓nm1, ↓nm2, ↓nm3, ↓nm4, ↓nm5, ↓nm6, ↓nm7, ↓nm8, ↓nm9, ↓nm10, ↓nm11, ↓nm12, ↓nm13, ↓nm14, ↓nm15, ↓nm16, ↓nm17, ↓nm18, ↓nm19, ↓nm20, ↓nm21, ↓nm22, ↓nm23, ↓nm24, ↓nm25, ↓nm26, ↓nm27, ↓nm28, ↓nm29, ↓nm30, ↓nm31, ↓nm32, ↓nm33, ↓nm34, ↓nm35, ↓nm36, ↓nm37, ↓nm38, ↓nm39, ↓sPar_n, ↓sPar3_n, ↓sAug_n, ↓reduceIte, List.set_set, ↓sNext_e, ↓sSeq_e, ↓sBrk_e, ↓sCnt_e, ↓sDrop_e, ↓sRet_e, ↓sRetN_e, ↓sIf_e, ↓sAsg_e, ↓sRaise_e, ↓nmG_e, ↓tupG_e, ↓gsNil_e, ↓gsCons_e, ↓subG_e, ↓dC_e, ↓dOp_e, ↓dUn_e, ↓dChain_e, ↓bOf_e, ↓bAnd_e, ↓bOr_e, ↓bNot_e, ↓bYes_e, ↓dAnd_e, ↓dOr_e, ↓dNot_e, ↓dIf_e, ↓lNil_e, ↓lCons_e, ↓dLst_e, ↓dDic0_e, ↓dDic1_e, ↓dLenSetG_e, dIsB_b, dIsNB_b, dSD_e, ↓dLstO_e, ↓dTup_e, ↓dCB_e, ↓dCall_e, ↓dCallK_e, ↓oNone_e, ↓oSome_e, ↓dSl_e, ↓dBM_e, ↓dBM0_e, ↓dFz_e, ↓dFz2_e, ↓d2_e, ↓dLone_e, ↓lStar_e, ↓dCallA_e, ↓dMakeA_e, ↓dMakeV_e, ↓dMethA_e, ↓dCMethA_e, ↓dPropA_e, ↓dFld_e, ↓sFldS_e, ↓dFzI_e, ↓fzID_o, ↓dM1_e, ↓dM0_e, ↓dRev_e, ↓mSplit_s, ↓mUpper_s, ↓exStr, ↓exZ, ↓cStrI_i, ↓cIntS_s, ↓iStrD_e, ↓dEqF_s, ↓dNeF_s, ↓dEqF_i, ↓dNeF_i, ↓dSign_s, ↓sRaiseI_e, ↓dXFld_e, ↓mPop_e, ↓dAddO_l, ↓dAddO_o, ↓dMk0_e, ↓sKeep_e, ↓sTryH_e, ↓dCVal_e, ↓dConI_e, ↓cLen_s, ↓dIx_s, ↓dSlS_s, ↓dAdd_s, ↓cTup_l, ↓pkP_e, ↓pkS_e, ↓lstG_e, ↓asI_i, ↓iSeq_e, ↓iTupD_e, ↓iRg1_e, ↓iRg2_e, ↓iZipD_e, iZrD_e, ↓iEnumD_e, ↓sFor_e, ↓dLc_e, ↓finF_e, ↓finO_e, ↓fzD_l, ↓fzD_i, ↓fzD_o, ↓fzD2_o, ↓dSetO_e, ↓mAppend_e, ↓mClear_e, ↓mReverse_e, List.map_cons, List.map_nil, List.length_cons, List.length_nil, rep_0, rep_s, List.cons_append, List.nil_append, List.getElem?_cons_zero, List.getElem?_cons_succ, List.set_cons_zero, List.set_cons_succ, Nat.reduceAdd, Nat.reduceSub, Nat.zero_add, Nat.add_zero, ↓exSS, ↓exB, ↓exI, ↓ex1, ↓ex2, ↓ex3, ↓exI1, ↓exI2, ↓exT, ↓exC, ↓exAs, ↓dAdd_i, ↓dAddI_i, ↓dSubI_i, ↓dLRg_e, ↓dIsiT_e, ↓dLenSet_e, ↓bChain3_e, ↓dLRg2_e, ↓iRg3_e, ↓dLc2_e, ↓dSlT_t, dAddT_t, ↓dNewK_e, ↓dDis1_e, ↓sDkp_e, ↓dDGet_e, ↓dDGet2_e, ↓dLVals_e, ↓kD_ex_i, ↓dSS_e, ↓dST_e, ↓dSI_e, ↓lsG_e, ↓dMulI_i, ↓dNew_e, ↓sDct_e, ↓dMulO_l, ↓dLRgO_e, ↓dAdd_l, ↓dSub_i, ↓dMul_i, ↓dMul_l, ↓dMod_i, ↓dDiv_i, ↓dPow_i, ↓dLt_i, ↓dLe_i, ↓dGt_i, ↓dGe_i, ↓uNeg_i, ↓cMax2_i, ↓cMin2_i, ↓cAbs_i, ↓cInt_i, ↓cInt_b, ↓cLen_l, ↓cLen_q, ↓cLen_t, ↓cList_l, ↓cList_q, ↓cList_t, ↓cListO_l, ↓cListO_t, ↓dIx_l, ↓dIx_q, ↓dIx_t, ↓dIx_o', ↓exS, ↓exL, at_1, at_2, at_3, at_4, ix30, ix31, ix32, ↓dSlL_l, ↓dSlL_q, ↓asQ_l, ↓asL_l, at_0, ↓isi_non_int, ↓isi_non_bool, ↓isi_non_str, ↓isi_non_list, ↓isi_non_tuple, ↓isi_non_dict, ↓isi_bl_int, ↓isi_bl_bool, ↓isi_bl_str, ↓isi_bl_list, ↓isi_bl_tuple, ↓isi_bl_dict, ↓isi_int_int, ↓isi_int_bool, ↓isi_int_str, ↓isi_int_list, ↓isi_int_tuple, ↓isi_int_dict, ↓isi_str_int, ↓isi_str_bool, ↓isi_str_str, ↓isi_str_list, ↓isi_str_tuple, ↓isi_str_dict, ↓isi_lst_int, ↓isi_lst_bool, ↓isi_lst_str, ↓isi_lst_list, ↓isi_lst_tuple, ↓isi_lst_dict, ↓isi_sq_int, ↓isi_sq_bool, ↓isi_sq_str, ↓isi_sq_list, ↓isi_sq_tuple, ↓isi_sq_dict, ↓isi_tup_int, ↓isi_tup_bool, ↓isi_tup_str, ↓isi_tup_list, ↓isi_tup_tuple, ↓isi_tup_dict, ↓isi_dic_int, ↓isi_dic_bool, ↓isi_dic_str, ↓isi_dic_list, ↓isi_dic_tuple, ↓isi_dic_dict, if_true, if_false, Bool.not_true, Bool.not_false, true_and, and_true, reduceCtorEq, Bool.true_eq_false, Bool.false_eq_true, ite_true, ite_false, ↓exAny, ↓isLst_l, Int.toNat_natCast, Int.reduceToNat, dVar_e, sPar_e, sPar3_e, sAug_e])))
local macro_rules | `(tactic| walk_at "dls") => `(tactic| ((try simp only [gstart, gwipe, List.set_set, List.map_cons, List.map_nil, List.length_cons, List.length_nil, rep_0, rep_s, List.cons_append, List.nil_append, List.set_cons_zero, List.set_cons_succ, Nat.reduceAdd, Nat.reduceSub, Nat.zero_add, Nat.add_zero]); (try simp only [*, ↓dv0, ↓dv1, ↓dv2, ↓dv3, ↓dv4, ↓dv5, ↓dv6, ↓dv7, ↓dv8, ↓dv9, ↓dv10, ↓dv11, ↓dv12, ↓dv13, ↓dv14, ↓dv15, ↓dv16, ↓dv17, ↓dv18, ↓dv19, ↓dv20, ↓dv21, ↓dv22, ↓dv23, ↓dv24, ↓dv25, ↓dv26, ↓dv27, ↓dv28, ↓dv29, ↓dv30, ↓dv31, ↓dv32, ↓dv33, ↓dv34, ↓dv35, ↓dv36, ↓dv37, ↓dv38, ↓dv39, ↓nm0, ↓nm1, ↓nm2, ↓nm3, ↓nm4, ↓nm5, ↓nm6, ↓nm7, ↓nm8, ↓nm9, ↓nm10, ↓nm11, ↓nm12, ↓nm13, ↓nm14, ↓nm15, ↓nm16, ↓nm17, ↓nm18, ↓nm19, ↓nm20, ↓nm21, ↓nm22, ↓nm23, ↓nm24, ↓nm25, ↓nm26, ↓nm27, ↓nm28, ↓nm29, ↓nm30, ↓nm31, ↓nm32, ↓nm33, ↓nm34, ↓nm35, ↓nm36, ↓nm37, ↓nm38, ↓nm39, ↓sPar_n, ↓sPar3_n, ↓sAug_n, ↓reduceIte, List.set_set, ↓sNext_e, ↓sSeq_e, ↓sBrk_e, ↓sCnt_e, ↓sDrop_e, ↓sRet_e, ↓sRetN_e, ↓sIf_e, ↓sAsg_e, ↓sRaise_e, ↓nmG_e, ↓tupG_e, ↓gsNil_e, ↓gsCons_e, ↓subG_e, ↓dC_e, ↓dOp_e, ↓dUn_e, ↓dChain_e, ↓bOf_e, ↓bAnd_e, ↓bOr_e, ↓bNot_e, ↓bYes_e, ↓dAnd_e, ↓dOr_e, ↓dNot_e, ↓dIf_e, ↓lNil_e, ↓lCons_e, ↓dLst_e, ↓dDic0_e, ↓dDic1_e, ↓dLenSetG_e, dIsB_b, dIsNB_b, dSD_e, ↓dLstO_e, ↓dTup_e, ↓dCB_e, ↓dCall_e, ↓dCallK_e, ↓oNone_e, ↓oSome_e, ↓dSl_e, ↓dBM_e, ↓dBM0_e, ↓dFz_e, ↓dFz2_e, ↓d2_e, ↓dLone_e, ↓lStar_e, ↓dCallA_e, ↓dMakeA_e, ↓dMakeV_e, ↓dMethA_e, ↓dCMethA_e, ↓dPropA_e, ↓dFld_e, ↓sFldS_e, ↓dFzI_e, ↓fzID_o, ↓dM1_e, ↓dM0_e, ↓dRev_e, ↓mSplit_s, ↓mUpper_s, ↓exStr, ↓exZ, ↓cStrI_i, ↓cIntS_s, ↓iStrD_e, ↓dEqF_s, ↓dNeF_s, ↓dEqF_i, ↓dNeF_i, ↓dSign_s, ↓sRaiseI_e, ↓dXFld_e, ↓mPop_e, ↓dAddO_l, ↓dAddO_o, ↓dMk0_e, ↓sKeep_e, ↓sTryH_e, ↓dCVal_e, ↓dConI_e, ↓cLen_s, ↓dIx_s, ↓dSlS_s, ↓dAdd_s, ↓cTup_l, ↓pkP_e, ↓pkS_e, ↓lstG_e, ↓asI_i, ↓iSeq_e, ↓iTupD_e, ↓iRg1_e, ↓iRg2_e, ↓iZipD_e, iZrD_e, ↓iEnumD_e, ↓sFor_e, ↓dLc_e, ↓finF_e, ↓finO_e, ↓fzD_l, ↓fzD_i, ↓fzD_o, ↓fzD2_o, ↓dSetO_e, ↓mAppend_e, ↓mClear_e, ↓mReverse_e, List.map_cons, List.map_nil, List.length_cons, List.length_nil, rep_0, rep_s, List.cons_append, List.nil_append, List.getElem?_cons_zero, List.getElem?_cons_succ, List.set_cons_zero, List.set_cons_succ, Nat.reduceAdd, Nat.reduceSub, Nat.zero_add, Nat.add_zero, ↓exSS, ↓exB, ↓exI, ↓ex1, ↓ex2, ↓ex3, ↓exI1, ↓exI2, ↓exT, ↓exC, ↓exAs, ↓dAdd_i, ↓dAddI_i, ↓dSubI_i, ↓dLRg_e, ↓dIsiT_e, ↓dLenSet_e, ↓bChain3_e, ↓dLRg2_e, ↓iRg3_e, ↓dLc2_e, ↓dSlT_t, dAddT_t, ↓dNewK_e, ↓dDis1_e, ↓sDkp_e, ↓dDGet_e, ↓dDGet2_e, ↓dLVals_e, ↓kD_ex_i, ↓dSS_e, ↓dST_e, ↓dSI_e, ↓lsG_e, ↓dMulI_i, ↓dNew_e, ↓sDct_e, ↓dMulO_l, ↓dLRgO_e, ↓dAdd_l, ↓dSub_i, ↓dMul_i, ↓dMul_l, ↓dMod_i, ↓dDiv_i, ↓dPow_i, ↓dLt_i, ↓dLe_i, ↓dGt_i, ↓dGe_i, ↓uNeg_i, ↓cMax2_i, ↓cMin2_i, ↓cAbs_i, ↓cInt_i, ↓cInt_b, ↓cLen_l, ↓cLen_q, ↓cLen_t, ↓cList_l, ↓cList_q, ↓cList_t, ↓cListO_l, ↓cListO_t, ↓dIx_l, ↓dIx_q, ↓dIx_t, ↓dIx_o', ↓exS, ↓exL, at_1, at_2, at_3, at_4, ix30, ix31, ix32, ↓dSlL_l, ↓dSlL_q, ↓asQ_l, ↓asL_l, at_0, ↓isi_non_int, ↓isi_non_bool, ↓isi_non_str, ↓isi_non_list, ↓isi_non_tuple, ↓isi_non_dict, ↓isi_bl_int, ↓isi_bl_bool, ↓isi_bl_str, ↓isi_bl_list, ↓isi_bl_tuple, ↓isi_bl_dict, ↓isi_int_int, ↓isi_int_bool, ↓isi_int_str, ↓isi_int_list, ↓isi_int_tuple, ↓isi_int_dict, ↓isi_str_int, ↓isi_str_bool, ↓isi_str_str, ↓isi_str_list, ↓isi_str_tuple, ↓isi_str_dict, ↓isi_lst_int, ↓isi_lst_bool, ↓isi_lst_str, ↓isi_lst_list, ↓isi_lst_tuple, ↓isi_lst_dict, ↓isi_sq_int, ↓isi_sq_bool, ↓isi_sq_str, ↓isi_sq_list, ↓isi_sq_tuple, ↓isi_sq_dict, ↓isi_tup_int, ↓isi_tup_bool, ↓isi_tup_str, ↓isi_tup_list, ↓isi_tup_tuple, ↓isi_tup_dict, ↓isi_dic_int, ↓isi_dic_bool, ↓isi_dic_str, ↓isi_dic_list, ↓isi_dic_tuple, ↓isi_dic_dict, if_true, if_false, Bool.not_true, Bool.not_false, true_and, and_true, reduceCtorEq, Bool.true_eq_false, Bool.false_eq_true, ite_true, ite_false, ↓exAny, ↓isLst_l, Int.toNat_natCast, Int.reduceToNat, dVar_e, sPar_e, sPar3_e, sAug_e])))
--MK
abbrev Rets (sp : DSpec) (T : TSd) (N : List Str) : Prop := ∀ ds S Φ Ψ, sp ds S Φ Ψ → T { nx := fun _ S' => RetOk S Φ S' .non, rt := RetOk S Φ, er := ErOk S Ψ } (gstart N ds) S
theorem under {n : Nat} (h : n ≤ 1000000) : n < sizeLine := Nat.lt_of_le_of_lt h (by decide)
theorem all_map {α : Type} {S : Sto} {Φ : KD} (xs : List α) (f : α → Bool) (h : Φ S (.bl (xs.all f))) : cAll [.lst (xs.map fun x => D.bl (f x))] S Φ :=
  ⟨xs.map f, by rw [List.map_map]; rfl, by rw [List.all_map]; exact h⟩
end DL
namespace DL
open PySem PySem.Spec PyProof.Rows L2
local macro_rules | `(tactic| walk_at "dl") => `(tactic| ((try simp only [gstart, gwipe, List.set_set, List.map_cons, List.map_nil, List.length_cons, List.length_nil, rep_0, rep_s, List.cons_append, List.nil_append, List.set_cons_zero, List.set_cons_succ, Nat.reduceAdd, Nat.reduceSub, Nat.zero_add, Nat.add_zero]); (try simp only [↓dv0, ↓dv1, ↓dv2, ↓dv3, ↓dv4, ↓dv5, ↓dv6, ↓dv7, ↓dv8, ↓dv9, ↓dv10, ↓dv11, ↓dv12, ↓dv13, ↓dv14, ↓dv15, ↓dv16, ↓dv17, ↓dv18, ↓dv19, ↓dv20, ↓dv21, ↓dv22, ↓dv23, ↓dv24, ↓dv25, ↓dv26, ↓dv27, ↓dv28, ↓dv29, ↓dv30, ↓dv31, ↓dv32, ↓dv33, ↓dv34, ↓dv35, ↓dv36, ↓dv37, ↓dv38, ↓dv39, ↓nm0, ↓nm1, ↓nm2, ↓nm3, ↓nm4, ↓nm5, ↓nm6, ↓nm7, ↓nm8, ↓nm9, ↓nm10, ↓nm11, ↓nm12, ↓nm13, ↓nm14, ↓nm15, ↓nm16, ↓nm17, ↓nm18, ↓nm19, ↓nm20, ↓nm21, ↓nm22, ↓nm23, ↓nm24, ↓nm25, ↓nm26, ↓nm27, ↓nm28, ↓nm29, ↓nm30, ↓nm31, ↓nm32, ↓nm33, ↓nm34, ↓nm35, ↓nm36, ↓nm37, ↓nm38, ↓nm39, ↓sPar_n, ↓sPar3_n, ↓sAug_n, ↓reduceIte, List.set_set, ↓sNext_e, ↓sSeq_e, ↓sBrk_e, ↓sCnt_e, ↓sDrop_e, ↓sRet_e, ↓sRetN_e, ↓sIf_e, ↓sAsg_e, ↓sRaise_e, ↓nmG_e, ↓tupG_e, ↓gsNil_e, ↓gsCons_e, ↓subG_e, ↓dC_e, ↓dOp_e, ↓dUn_e, ↓dChain_e, ↓bOf_e, ↓bAnd_e, ↓bOr_e, ↓bNot_e, ↓bYes_e, ↓dAnd_e, ↓dOr_e, ↓dNot_e, ↓dIf_e, ↓lNil_e, ↓lCons_e, ↓dLst_e, ↓dDic0_e, ↓dDic1_e, ↓dLenSetG_e, dIsB_b, dIsNB_b, dSD_e, ↓dLstO_e, ↓dTup_e, ↓dCB_e, ↓dCall_e, ↓dCallK_e, ↓oNone_e, ↓oSome_e, ↓dSl_e, ↓dBM_e, ↓dBM0_e, ↓dFz_e, ↓dFz2_e, ↓d2_e, ↓dLone_e, ↓lStar_e, ↓dCallA_e, ↓dMakeA_e, ↓dMakeV_e, ↓dMethA_e, ↓dCMethA_e, ↓dPropA_e, ↓dFld_e, ↓sFldS_e, ↓dFzI_e, ↓fzID_o, ↓dM1_e, ↓dM0_e, ↓dRev_e, ↓mSplit_s, ↓mUpper_s, ↓exStr, ↓exZ, ↓cStrI_i, ↓cIntS_s, ↓iStrD_e, ↓dEqF_s, ↓dNeF_s, ↓dEqF_i, ↓dNeF_i, ↓dSign_s, ↓sRaiseI_e, ↓dXFld_e, ↓mPop_e, ↓dAddO_l, ↓dAddO_o, ↓dMk0_e, ↓sKeep_e, ↓sTryH_e, ↓dCVal_e, ↓dConI_e, ↓cLen_s, ↓dIx_s, ↓dSlS_s, ↓dAdd_s, ↓cTup_l, ↓pkP_e, ↓pkS_e, ↓lstG_e, ↓asI_i, ↓iSeq_e, ↓iTupD_e, ↓iRg1_e, ↓iRg2_e, ↓iZipD_e, iZrD_e, ↓iEnumD_e, ↓sFor_e, ↓dLc_e, ↓finF_e, ↓finO_e, ↓fzD_l, ↓fzD_i, ↓fzD_o, ↓fzD2_o, ↓dSetO_e, ↓mAppend_e, ↓mClear_e, ↓mReverse_e, List.map_cons, List.map_nil, List.length_cons, List.length_nil, rep_0, rep_s, List.cons_append, List.nil_append, List.getElem?_cons_zero, List.getElem?_cons_succ, List.set_cons_zero, List.set_cons_succ, Nat.reduceAdd, Nat.reduceSub, Nat.zero_add, Nat.add_zero, ↓exSS, ↓exB, ↓exI, ↓ex1, ↓ex2, ↓ex3, ↓exI1, ↓exI2, ↓exT, ↓exC, ↓exAs, ↓dAdd_i, ↓dAddI_i, ↓dSubI_i, ↓dLRg_e, ↓dIsiT_e, ↓dLenSet_e, ↓bChain3_e, ↓dLRg2_e, ↓iRg3_e, ↓dLc2_e, ↓dSlT_t, dAddT_t, ↓dNewK_e, ↓dDis1_e, ↓sDkp_e, ↓dDGet_e, ↓dDGet2_e, ↓dLVals_e, ↓kD_ex_i, ↓dSS_e, ↓dST_e, ↓dSI_e, ↓lsG_e, ↓dMulI_i, ↓dNew_e, ↓sDct_e, ↓dMulO_l, ↓dLRgO_e, ↓dAdd_l, ↓dSub_i, ↓dMul_i, ↓dMul_l, ↓dMod_i, ↓dDiv_i, ↓dPow_i, ↓dLt_i, ↓dLe_i, ↓dGt_i, ↓dGe_i, ↓uNeg_i, ↓cMax2_i, ↓cMin2_i, ↓cAbs_i, ↓cInt_i, ↓cInt_b, ↓cLen_l, ↓cLen_q, ↓cLen_t, ↓cList_l, ↓cList_q, ↓cList_t, ↓cListO_l, ↓cListO_t, ↓dIx_l, ↓dIx_q, ↓dIx_t, ↓dIx_o', ↓exS, ↓exL, at_1, at_2, at_3, at_4, ix30, ix31, ix32, ↓dSlL_l, ↓dSlL_q, ↓asQ_l, ↓asL_l, at_0, ↓isi_non_int, ↓isi_non_bool, ↓isi_non_str, ↓isi_non_list, ↓isi_non_tuple, ↓isi_non_dict, ↓isi_bl_int, ↓isi_bl_bool, ↓isi_bl_str, ↓isi_bl_list, ↓isi_bl_tuple, ↓isi_bl_dict, ↓isi_int_int, ↓isi_int_bool, ↓isi_int_str, ↓isi_int_list, ↓isi_int_tuple, ↓isi_int_dict, ↓isi_str_int, ↓isi_str_bool, ↓isi_str_str, ↓isi_str_list, ↓isi_str_tuple, ↓isi_str_dict, ↓isi_lst_int, ↓isi_lst_bool, ↓isi_lst_str, ↓isi_lst_list, ↓isi_lst_tuple, ↓isi_lst_dict, ↓isi_sq_int, ↓isi_sq_bool, ↓isi_sq_str, ↓isi_sq_list, ↓isi_sq_tuple, ↓isi_sq_dict, ↓isi_tup_int, ↓isi_tup_bool, ↓isi_tup_str, ↓isi_tup_list, ↓isi_tup_tuple, ↓isi_tup_dict, ↓isi_dic_int, ↓isi_dic_bool, ↓isi_dic_str, ↓isi_dic_list, ↓isi_dic_tuple, ↓isi_dic_dict, if_true, if_false, Bool.not_true, Bool.not_false, true_and, and_true, reduceCtorEq, Bool.true_eq_false, Bool.false_eq_true, ite_true, ite_false, ↓exAny, ↓isLst_l, Int.toNat_natCast, Int.reduceToNat, dVar_e, sPar_e, sPar3_e, sAug_e])))
local macro_rules | `(tactic| walk_at "dls") => `(tactic| ((try simp only [gstart, gwipe, List.set_set, List.map_cons, List.map_nil, List.length_cons, List.length_nil, rep_0, rep_s, List.cons_append, List.nil_append, List.set_cons_zero, List.set_cons_succ, Nat.reduceAdd, Nat.reduceSub, Nat.zero_add, Nat.add_zero]); (try simp only [*, ↓dv0, ↓dv1, ↓dv2, ↓dv3, ↓dv4, ↓dv5, ↓dv6, ↓dv7, ↓dv8, ↓dv9, ↓dv10, ↓dv11, ↓dv12, ↓dv13, ↓dv14, ↓dv15, ↓dv16, ↓dv17, ↓dv18, ↓dv19, ↓dv20, ↓dv21, ↓dv22, ↓dv23, ↓dv24, ↓dv25, ↓dv26, ↓dv27, ↓dv28, ↓dv29, ↓dv30, ↓dv31, ↓dv32, ↓dv33, ↓dv34, ↓dv35, ↓dv36, ↓dv37, ↓dv38, ↓dv39, ↓nm0, ↓nm1, ↓nm2, ↓nm3, ↓nm4, ↓nm5, ↓nm6, ↓nm7, ↓nm8, ↓nm9, ↓nm10, ↓nm11, ↓nm12, ↓nm13, ↓nm14, ↓nm15, ↓nm16, ↓nm17, ↓nm18, ↓nm19, ↓nm20, ↓nm21, ↓nm22, ↓nm23, ↓nm24, ↓nm25, ↓nm26, ↓nm27, ↓nm28, ↓nm29, ↓nm30, ↓nm31, ↓nm32, ↓nm33, ↓nm34, ↓nm35, ↓nm36, ↓nm37, ↓nm38, ↓nm39, ↓sPar_n, ↓sPar3_n, ↓sAug_n, ↓reduceIte, List.set_set, ↓sNext_e, ↓sSeq_e, ↓sBrk_e, ↓sCnt_e, ↓sDrop_e, ↓sRet_e, ↓sRetN_e, ↓sIf_e, ↓sAsg_e, ↓sRaise_e, ↓nmG_e, ↓tupG_e, ↓gsNil_e, ↓gsCons_e, ↓subG_e, ↓dC_e, ↓dOp_e, ↓dUn_e, ↓dChain_e, ↓bOf_e, ↓bAnd_e, ↓bOr_e, ↓bNot_e, ↓bYes_e, ↓dAnd_e, ↓dOr_e, ↓dNot_e, ↓dIf_e, ↓lNil_e, ↓lCons_e, ↓dLst_e, ↓dDic0_e, ↓dDic1_e, ↓dLenSetG_e, dIsB_b, dIsNB_b, dSD_e, ↓dLstO_e, ↓dTup_e, ↓dCB_e, ↓dCall_e, ↓dCallK_e, ↓oNone_e, ↓oSome_e, ↓dSl_e, ↓dBM_e, ↓dBM0_e, ↓dFz_e, ↓dFz2_e, ↓d2_e, ↓dLone_e, ↓lStar_e, ↓dCallA_e, ↓dMakeA_e, ↓dMakeV_e, ↓dMethA_e, ↓dCMethA_e, ↓dPropA_e, ↓dFld_e, ↓sFldS_e, ↓dFzI_e, ↓fzID_o, ↓dM1_e, ↓dM0_e, ↓dRev_e, ↓mSplit_s, ↓mUpper_s, ↓exStr, ↓exZ, ↓cStrI_i, ↓cIntS_s, ↓iStrD_e, ↓dEqF_s, ↓dNeF_s, ↓dEqF_i, ↓dNeF_i, ↓dSign_s, ↓sRaiseI_e, ↓dXFld_e, ↓mPop_e, ↓dAddO_l, ↓dAddO_o, ↓dMk0_e, ↓sKeep_e, ↓sTryH_e, ↓dCVal_e, ↓dConI_e, ↓cLen_s, ↓dIx_s, ↓dSlS_s, ↓dAdd_s, ↓cTup_l, ↓pkP_e, ↓pkS_e, ↓lstG_e, ↓asI_i, ↓iSeq_e, ↓iTupD_e, ↓iRg1_e, ↓iRg2_e, ↓iZipD_e, iZrD_e, ↓iEnumD_e, ↓sFor_e, ↓dLc_e, ↓finF_e, ↓finO_e, ↓fzD_l, ↓fzD_i, ↓fzD_o, ↓fzD2_o, ↓dSetO_e, ↓mAppend_e, ↓mClear_e, ↓mReverse_e, List.map_cons, List.map_nil, List.length_cons, List.length_nil, rep_0, rep_s, List.cons_append, List.nil_append, List.getElem?_cons_zero, List.getElem?_cons_succ, List.set_cons_zero, List.set_cons_succ, Nat.reduceAdd, Nat.reduceSub, Nat.zero_add, Nat.add_zero, ↓exSS, ↓exB, ↓exI, ↓ex1, ↓ex2, ↓ex3, ↓exI1, ↓exI2, ↓exT, ↓exC, ↓exAs, ↓dAdd_i, ↓dAddI_i, ↓dSubI_i, ↓dLRg_e, ↓dIsiT_e, ↓dLenSet_e, ↓bChain3_e, ↓dLRg2_e, ↓iRg3_e, ↓dLc2_e, ↓dSlT_t, dAddT_t, ↓dNewK_e, ↓dDis1_e, ↓sDkp_e, ↓dDGet_e, ↓dDGet2_e, ↓dLVals_e, ↓kD_ex_i, ↓dSS_e, ↓dST_e, ↓dSI_e, ↓lsG_e, ↓dMulI_i, ↓dNew_e, ↓sDct_e, ↓dMulO_l, ↓dLRgO_e, ↓dAdd_l, ↓dSub_i, ↓dMul_i, ↓dMul_l, ↓dMod_i, ↓dDiv_i, ↓dPow_i, ↓dLt_i, ↓dLe_i, ↓dGt_i, ↓dGe_i, ↓uNeg_i, ↓cMax2_i, ↓cMin2_i, ↓cAbs_i, ↓cInt_i, ↓cInt_b, ↓cLen_l, ↓cLen_q, ↓cLen_t, ↓cList_l, ↓cList_q, ↓cList_t, ↓cListO_l, ↓cListO_t, ↓dIx_l, ↓dIx_q, ↓dIx_t, ↓dIx_o', ↓exS, ↓exL, at_1, at_2, at_3, at_4, ix30, ix31, ix32, ↓dSlL_l, ↓dSlL_q, ↓asQ_l, ↓asL_l, at_0, ↓isi_non_int, ↓isi_non_bool, ↓isi_non_str, ↓isi_non_list, ↓isi_non_tuple, ↓isi_non_dict, ↓isi_bl_int, ↓isi_bl_bool, ↓isi_bl_str, ↓isi_bl_list, ↓isi_bl_tuple, ↓isi_bl_dict, ↓isi_int_int, ↓isi_int_bool, ↓isi_int_str, ↓isi_int_list, ↓isi_int_tuple, ↓isi_int_dict, ↓isi_str_int, ↓isi_str_bool, ↓isi_str_str, ↓isi_str_list, ↓isi_str_tuple, ↓isi_str_dict, ↓isi_lst_int, ↓isi_lst_bool, ↓isi_lst_str, ↓isi_lst_list, ↓isi_lst_tuple, ↓isi_lst_dict, ↓isi_sq_int, ↓isi_sq_bool, ↓isi_sq_str, ↓isi_sq_list, ↓isi_sq_tuple, ↓isi_sq_dict, ↓isi_tup_int, ↓isi_tup_bool, ↓isi_tup_str, ↓isi_tup_list, ↓isi_tup_tuple, ↓isi_tup_dict, ↓isi_dic_int, ↓isi_dic_bool, ↓isi_dic_str, ↓isi_dic_list, ↓isi_dic_tuple, ↓isi_dic_dict, if_true, if_false, Bool.not_true, Bool.not_false, true_and, and_true, reduceCtorEq, Bool.true_eq_false, Bool.false_eq_true, ite_true, ite_false, ↓exAny, ↓isLst_l, Int.toNat_natCast, Int.reduceToNat, dVar_e, sPar_e, sPar3_e, sAug_e])))
--MK
theorem inB_of {v lo hi : Int} (h : lo ≤ v) (h2 : v ≤ hi) : inB v lo hi = true := by unfold inB; rw [decide_eq_true h, decide_eq_true h2]; rfl
theorem in_words (w : Str) : inD (.str w) (kindsL.map D.str) = decide (w ∈ kindsL) := by
  unfold inD
  rw [Bool.eq_iff_iff, List.any_eq_true, decide_eq_true_eq]
  constructor
  · rintro ⟨d, hd, e⟩
    obtain ⟨x, hx, rfl⟩ := List.mem_map.mp hd
    have : (x == w) = true := e
    rw [beq_iff_eq] at this
    exact this ▸ hx
  · intro h
    exact ⟨.str w, List.mem_map.mpr ⟨w, h, rfl⟩, show (w == w) = true from beq_self_eq_true w⟩
theorem p_is_integer : Rets sp_is_integer T_is_integer N_is_integer := by
  rintro _ S Φ Ψ ⟨v, lo, hi, rfl, h⟩
  unfold T_is_integer
  walk_at "dl"
  unfold inB at h
  by_cases c : lo ≤ v
  · rw [if_pos (by rw [decide_eq_true_eq]; exact c)]
    rw [decide_eq_true c, Bool.true_and] at h
    exact ret_now h
  · rw [if_neg (by rw [decide_eq_true_eq]; exact c)]
    rw [decide_eq_false c, Bool.false_and] at h
    exact ret_now h
theorem p_is_cell : Rets sp_is_cell T_is_cell N_is_cell := by
  rintro _ S Φ Ψ ⟨v, rfl, h⟩
  unfold T_is_cell
  walk_at "dl"
  exact ⟨_, _, _, rfl, ret_now h⟩
theorem p_are_kinds (C : Addr) : Rets sp_are_kinds (T_are_kinds C) N_are_kinds := by
  rintro _ S Φ Ψ ⟨ks, rfl, h1, h2, hk, h⟩
  unfold T_are_kinds
  walk_at "dl"
  rw [List.length_map]
  rw [if_pos (by rw [decide_eq_true_eq]; omega), if_neg (by rw [Bool.not_eq_true', decide_eq_false_iff_not]; omega)]
  refine lc_map ks D.str (fun _ => .bl true) (small (by omega)) (fun k hk' R hR => ?_) ?_
  · walk_at "dl"
    refine ⟨C, rfl, _, .head _, _, rfl, rfl, rfl, ?_⟩
    rw [if_neg Bool.false_ne_true]
    show R S (.bl (inD (.str k) (kindsL.map D.str)))
    rw [in_words, decide_eq_true (hk k hk')]
    exact hR
  · walk_at "dl"
    refine all_map ks (fun _ => true) ?_
    rw [show (ks.all fun _ => true) = true from by simp]
    exact ret_now h
theorem p_Style___init__ (I C : Addr) : Rets (sp_Style___init__ C) (T_Style___init__ I C) N_Style___init__ := by
  rintro _ S Φ Ψ ⟨h, ks, g, l, rfl, eh, ok, q⟩
  unfold T_Style___init__
  walk_at "dl"
  have es : ∀ c, (S.set h c)[h]? = some c := fun c => List.getElem?_set_self (List.getElem?_eq_some_iff.mp eh).1
  refine joinD (fun S' d => S' = S ∧ d = .lst ((kindsOr ks).map D.str)) (fun S' d ⟨e1, e2⟩ => ?_) fun N hN => ?_
  · subst e1
    subst e2
    refine ⟨_, rfl, ok.lo, ok.hi, ok.at_, true, rfl, ?_⟩
    rw [if_neg (by decide)]
    refine ⟨g, rfl, true, by rw [inB_of ok.g0 ok.g1], ?_⟩
    rw [if_neg (by decide)]
    refine ⟨l, rfl, true, by rw [inB_of ok.l0 ok.l1], ?_⟩
    rw [if_neg (by decide)]
    refine ⟨h, [], rfl, eh, by decide, h, _, rfl, es _, by show (1 : Nat) < 1000; decide, h, _, rfl, by rw [List.set_set]; exact es _, by show (2 : Nat) < 1000; decide, ?_⟩
    rw [List.set_set, List.set_set]
    exact ret_now q
  · walk_at "dl"
    rw [List.length_map]
    cases ks with
    | nil =>
      rw [if_neg (by decide)]
      exact ⟨small, hN _ _ ⟨rfl, rfl⟩⟩
    | cons k r =>
      rw [if_pos (by rw [decide_eq_true_eq, List.length_cons]; omega)]
      exact hN _ _ ⟨rfl, rfl⟩
theorem p_Style_of (I C : Addr) : Rets (sp_Style_of C) (T_Style_of I C) N_Style_of := by
  rintro _ S Φ Ψ ⟨ks, g, l, rfl, ok, q⟩
  unfold T_Style_of
  walk_at "dl"
  have e : kindsOr ks = ks := by
    unfold kindsOr
    rw [if_neg (fun e => by have := ok.lo; rw [e] at this; simp at this)]
  refine ⟨_, rfl, ok.lo, ok.hi, ok.at_, true, rfl, ?_⟩
  rw [if_neg (by decide)]
  refine ⟨_, rfl, rfl, by simp, small (by show (ks.map D.str).length ≤ _; rw [List.length_map]; have := ok.hi; omega), _, ks, _, _, rfl, get_at, by rw [e]; exact ok, rfl, ?_⟩
  rw [set_at, e]
  exact ret_now q
theorem p_Style_gap (C : Addr) : Rets (sp_Style_gap C) (T_Style_gap C) N_Style_gap := by
  rintro _ S Φ Ψ ⟨d, ks, g, l, rfl, e, h⟩
  unfold T_Style_gap
  walk_at "dl"
  exact ⟨_, e, _, rfl, ret_now h⟩
theorem p_Style_least (C : Addr) : Rets (sp_Style_least C) (T_Style_least C) N_Style_least := by
  rintro _ S Φ Ψ ⟨d, ks, g, l, rfl, e, h⟩
  unfold T_Style_least
  walk_at "dl"
  exact ⟨_, e, _, rfl, ret_now h⟩
theorem asI_app {S T : Sto} {d : D} {C : Addr} {fs : List (Str × D)} (e : asI S d = some (C, fs)) : asI (S ++ T) d = some (C, fs) := by
  cases d with
  | ins C' fs' => exact e
  | own h =>
    have e : (match S[h]? with | some (.ins C fs) => some (C, fs) | _ => none) = some (C, fs) := e
    split at e
    · cases e
      exact asI_own (get_app (by assumption))
    · cases e
  | _ => cases e
theorem owns_at {n m i : Nat} (h : i < m) : (ownsD n m)[i]? = some (.own (n + i)) := by
  unfold ownsD
  rw [List.getElem?_map, List.getElem?_range h]
  rfl
theorem tab_at {t : List (List Int)} {i : Nat} (h : i < t.length) : t.getD i [] = t[i] := by
  rw [List.getD_eq_getElem?_getD, List.getElem?_eq_getElem h]
  rfl
theorem fz_owns {Z : Sto} : ∀ (us : List (List Int)) (B : Sto) (Φ : Sto → List D → Prop), (∀ B', Φ (B ++ B') (us.map rowD)) → fzLD ((List.range us.length).map fun j => D.own (B.length + j)) (B ++ cellsD us ++ Z) Φ
  | [], B, Φ, h => by
    have := h Z
    simpa [fzLD, cellsD] using this
  | u :: us, B, Φ, h => by
    rw [List.length_cons, List.range_succ_eq_map, List.map_cons, List.map_map]
    refine ⟨u.map D.int, ?_, ?_⟩
    · rw [List.append_assoc]
      exact get_at
    · have e : (B ++ cellsD (u :: us) ++ Z).set (B.length + 0) .gone = B ++ [.gone] ++ cellsD us ++ Z := by
        rw [List.append_assoc]
        show (B ++ (_ :: (cellsD us ++ Z))).set _ _ = _
        rw [Nat.add_zero, set_at]
        simp
      rw [e]
      have ih := fz_owns (Z := Z) us (B ++ [.gone]) (fun S' ds' => Φ S' (rowD u :: ds')) fun B' => by
        have := h ([.gone] ++ B')
        rw [← List.append_assoc] at this
        exact this
      have e2 : (fun j => D.own ((B ++ [Cell.gone]).length + j)) = ((fun j => D.own (B.length + j)) ∘ Nat.succ) := by
        funext j
        show D.own _ = D.own _
        rw [List.length_append]
        show D.own (B.length + 1 + j) = D.own (B.length + (j + 1))
        congr 1
        omega
      rw [e2] at ih
      exact ih
/-- a new table, frozen at once -/
theorem fz_new {t : List (List Int)} {S : Sto} {Φ : KD} (h : ∀ Z, Φ (S ++ Z) (tabD t)) : newTab t S fun S1 d => fzD2 d S1 Φ := by
  have lc : (cellsD t).length = t.length := by simp [cellsD]
  have e : S.length + t.length = (S ++ cellsD t).length := by rw [List.length_append, lc]
  refine ⟨ownsD S.length t.length, by rw [e]; exact get_at, ?_⟩
  rw [e, set_at]
  exact fz_owns t S _ fun B' => h B'
theorem p_is_line : Rets sp_is_line T_is_line N_is_line := by
  rintro _ S Φ Ψ ⟨d, r, rfl, e, ok, h⟩
  unfold T_is_line
  walk_at "dl"
  have h1 := ok.lo
  have h2 := ok.hi
  rw [cIsi_of (tyOf_L e)]
  walk_at "dl"
  rw [cLen_L e, List.length_map]
  walk_at "dl"
  rw [if_pos (show isTyB "list" "list" = true from rfl), if_pos (by rw [decide_eq_true_eq]; omega), if_pos (by rw [decide_eq_true_eq]; omega)]
  refine ⟨⟨_, asQ_L e⟩, lc_mapS r D.int (fun _ => .bl true) (asQ_L e) (small (by omega)) (fun x hx R hR => ?_) ?_⟩
  · walk_at "dl"
    exact ⟨x, rfl, by rw [inB_of (ok.at_ x hx).1 (ok.at_ x hx).2]; exact hR⟩
  · walk_at "dl"
    exact ⟨r.map fun _ => true, by rw [List.map_map]; rfl, ret_now (by rw [all_true]; exact h)⟩
theorem p_is_table : Rets sp_is_table T_is_table N_is_table := by
  rintro _ S Φ Ψ ⟨d, t, rfl, ⟨ds, e, rs⟩, ok, h⟩
  unfold T_is_table
  walk_at "dl"
  have h1 := ok.lo
  have h2 := ok.hi
  have h3 := rs.len
  rw [cIsi_of (tyOf_L e)]
  walk_at "dl"
  rw [cLen_L e]
  walk_at "dl"
  rw [if_pos (show isTyB "list" "list" = true from rfl), if_pos (by rw [decide_eq_true_eq]; omega), if_pos (by rw [decide_eq_true_eq]; omega)]
  refine ⟨⟨_, asQ_L e⟩, lc_idS ds (fun _ => .bl true) (asQ_L e) (small (by omega)) (fun x hx R hR => ?_) ?_⟩
  · obtain ⟨r, hr, er⟩ := rs.mem hx
    walk_at "dl"
    exact ⟨x, r, rfl, er, ok.row r hr, hR⟩
  · walk_at "dl"
    exact ⟨ds.map fun _ => true, by rw [List.map_map]; rfl, ret_now (by rw [all_true]; exact h)⟩
theorem p_need_table (C) : Rets sp_need_table (T_need_table C) N_need_table := by
  rintro _ S Φ Ψ ⟨d, t, rfl, e, ok, h⟩
  unfold T_need_table
  walk_at "dl"
  exact ⟨d, t, rfl, e, ok, by walk_at "dl"; exact ret_now h⟩
end DL
namespace DL
open PySem PySem.Spec PyProof.Rows L2
local macro_rules | `(tactic| walk_at "dl") => `(tactic| ((try simp only [gstart, gwipe, List.set_set, List.map_cons, List.map_nil, List.length_cons, List.length_nil, rep_0, rep_s, List.cons_append, List.nil_append, List.set_cons_zero, List.set_cons_succ, Nat.reduceAdd, Nat.reduceSub, Nat.zero_add, Nat.add_zero]); (try simp only [↓dv0, ↓dv1, ↓dv2, ↓dv3, ↓dv4, ↓dv5, ↓dv6, ↓dv7, ↓dv8, ↓dv9, ↓dv10, ↓dv11, ↓dv12, ↓dv13, ↓dv14, ↓dv15, ↓dv16, ↓dv17, ↓dv18, ↓dv19, ↓dv20, ↓dv21, ↓dv22, ↓dv23, ↓dv24, ↓dv25, ↓dv26, ↓dv27, ↓dv28, ↓dv29, ↓dv30, ↓dv31, ↓dv32, ↓dv33, ↓dv34, ↓dv35, ↓dv36, ↓dv37, ↓dv38, ↓dv39, ↓nm0, ↓nm1, ↓nm2, ↓nm3, ↓nm4, ↓nm5, ↓nm6, ↓nm7, ↓nm8, ↓nm9, ↓nm10, ↓nm11, ↓nm12, ↓nm13, ↓nm14, ↓nm15, ↓nm16, ↓nm17, ↓nm18, ↓nm19, ↓nm20, ↓nm21, ↓nm22, ↓nm23, ↓nm24, ↓nm25, ↓nm26, ↓nm27, ↓nm28, ↓nm29, ↓nm30, ↓nm31, ↓nm32, ↓nm33, ↓nm34, ↓nm35, ↓nm36, ↓nm37, ↓nm38, ↓nm39, ↓sPar_n, ↓sPar3_n, ↓sAug_n, ↓reduceIte, List.set_set, ↓sNext_e, ↓sSeq_e, ↓sBrk_e, ↓sCnt_e, ↓sDrop_e, ↓sRet_e, ↓sRetN_e, ↓sIf_e, ↓sAsg_e, ↓sRaise_e, ↓nmG_e, ↓tupG_e, ↓gsNil_e, ↓gsCons_e, ↓subG_e, ↓dC_e, ↓dOp_e, ↓dUn_e, ↓dChain_e, ↓bOf_e, ↓bAnd_e, ↓bOr_e, ↓bNot_e, ↓bYes_e, ↓dAnd_e, ↓dOr_e, ↓dNot_e, ↓dIf_e, ↓lNil_e, ↓lCons_e, ↓dLst_e, ↓dDic0_e, ↓dDic1_e, ↓dLenSetG_e, dIsB_b, dIsNB_b, dSD_e, ↓dLstO_e, ↓dTup_e, ↓dCB_e, ↓dCall_e, ↓dCallK_e, ↓oNone_e, ↓oSome_e, ↓dSl_e, ↓dBM_e, ↓dBM0_e, ↓dFz_e, ↓dFz2_e, ↓d2_e, ↓dLone_e, ↓lStar_e, ↓dCallA_e, ↓dMakeA_e, ↓dMakeV_e, ↓dMethA_e, ↓dCMethA_e, ↓dPropA_e, ↓dFld_e, ↓sFldS_e, ↓dFzI_e, ↓fzID_o, ↓dM1_e, ↓dM0_e, ↓dRev_e, ↓mSplit_s, ↓mUpper_s, ↓exStr, ↓exZ, ↓cStrI_i, ↓cIntS_s, ↓iStrD_e, ↓dEqF_s, ↓dNeF_s, ↓dEqF_i, ↓dNeF_i, ↓dSign_s, ↓sRaiseI_e, ↓dXFld_e, ↓mPop_e, ↓dAddO_l, ↓dAddO_o, ↓dMk0_e, ↓sKeep_e, ↓sTryH_e, ↓dCVal_e, ↓dConI_e, ↓cLen_s, ↓dIx_s, ↓dSlS_s, ↓dAdd_s, ↓cTup_l, ↓pkP_e, ↓pkS_e, ↓lstG_e, ↓asI_i, ↓iSeq_e, ↓iTupD_e, ↓iRg1_e, ↓iRg2_e, ↓iZipD_e, iZrD_e, ↓iEnumD_e, ↓sFor_e, ↓dLc_e, ↓finF_e, ↓finO_e, ↓fzD_l, ↓fzD_i, ↓fzD_o, ↓fzD2_o, ↓dSetO_e, ↓mAppend_e, ↓mClear_e, ↓mReverse_e, List.map_cons, List.map_nil, List.length_cons, List.length_nil, rep_0, rep_s, List.cons_append, List.nil_append, List.getElem?_cons_zero, List.getElem?_cons_succ, List.set_cons_zero, List.set_cons_succ, Nat.reduceAdd, Nat.reduceSub, Nat.zero_add, Nat.add_zero, ↓exSS, ↓exB, ↓exI, ↓ex1, ↓ex2, ↓ex3, ↓exI1, ↓exI2, ↓exT, ↓exC, ↓exAs, ↓dAdd_i, ↓dAddI_i, ↓dSubI_i, ↓dLRg_e, ↓dIsiT_e, ↓dLenSet_e, ↓bChain3_e, ↓dLRg2_e, ↓iRg3_e, ↓dLc2_e, ↓dSlT_t, dAddT_t, ↓dNewK_e, ↓dDis1_e, ↓sDkp_e, ↓dDGet_e, ↓dDGet2_e, ↓dLVals_e, ↓kD_ex_i, ↓dSS_e, ↓dST_e, ↓dSI_e, ↓lsG_e, ↓dMulI_i, ↓dNew_e, ↓sDct_e, ↓dMulO_l, ↓dLRgO_e, ↓dAdd_l, ↓dSub_i, ↓dMul_i, ↓dMul_l, ↓dMod_i, ↓dDiv_i, ↓dPow_i, ↓dLt_i, ↓dLe_i, ↓dGt_i, ↓dGe_i, ↓uNeg_i, ↓cMax2_i, ↓cMin2_i, ↓cAbs_i, ↓cInt_i, ↓cInt_b, ↓cLen_l, ↓cLen_q, ↓cLen_t, ↓cList_l, ↓cList_q, ↓cList_t, ↓cListO_l, ↓cListO_t, ↓dIx_l, ↓dIx_q, ↓dIx_t, ↓dIx_o', ↓exS, ↓exL, at_1, at_2, at_3, at_4, ix30, ix31, ix32, ↓dSlL_l, ↓dSlL_q, ↓asQ_l, ↓asL_l, at_0, ↓isi_non_int, ↓isi_non_bool, ↓isi_non_str, ↓isi_non_list, ↓isi_non_tuple, ↓isi_non_dict, ↓isi_bl_int, ↓isi_bl_bool, ↓isi_bl_str, ↓isi_bl_list, ↓isi_bl_tuple, ↓isi_bl_dict, ↓isi_int_int, ↓isi_int_bool, ↓isi_int_str, ↓isi_int_list, ↓isi_int_tuple, ↓isi_int_dict, ↓isi_str_int, ↓isi_str_bool, ↓isi_str_str, ↓isi_str_list, ↓isi_str_tuple, ↓isi_str_dict, ↓isi_lst_int, ↓isi_lst_bool, ↓isi_lst_str, ↓isi_lst_list, ↓isi_lst_tuple, ↓isi_lst_dict, ↓isi_sq_int, ↓isi_sq_bool, ↓isi_sq_str, ↓isi_sq_list, ↓isi_sq_tuple, ↓isi_sq_dict, ↓isi_tup_int, ↓isi_tup_bool, ↓isi_tup_str, ↓isi_tup_list, ↓isi_tup_tuple, ↓isi_tup_dict, ↓isi_dic_int, ↓isi_dic_bool, ↓isi_dic_str, ↓isi_dic_list, ↓isi_dic_tuple, ↓isi_dic_dict, if_true, if_false, Bool.not_true, Bool.not_false, true_and, and_true, reduceCtorEq, Bool.true_eq_false, Bool.false_eq_true, ite_true, ite_false, ↓exAny, ↓isLst_l, Int.toNat_natCast, Int.reduceToNat, dVar_e, sPar_e, sPar3_e, sAug_e])))
local macro_rules | `(tactic| walk_at "dls") => `(tactic| ((try simp only [gstart, gwipe, List.set_set, List.map_cons, List.map_nil, List.length_cons, List.length_nil, rep_0, rep_s, List.cons_append, List.nil_append, List.set_cons_zero, List.set_cons_succ, Nat.reduceAdd, Nat.reduceSub, Nat.zero_add, Nat.add_zero]); (try simp only [*, ↓dv0, ↓dv1, ↓dv2, ↓dv3, ↓dv4, ↓dv5, ↓dv6, ↓dv7, ↓dv8, ↓dv9, ↓dv10, ↓dv11, ↓dv12, ↓dv13, ↓dv14, ↓dv15, ↓dv16, ↓dv17, ↓dv18, ↓dv19, ↓dv20, ↓dv21, ↓dv22, ↓dv23, ↓dv24, ↓dv25, ↓dv26, ↓dv27, ↓dv28, ↓dv29, ↓dv30, ↓dv31, ↓dv32, ↓dv33, ↓dv34, ↓dv35, ↓dv36, ↓dv37, ↓dv38, ↓dv39, ↓nm0, ↓nm1, ↓nm2, ↓nm3, ↓nm4, ↓nm5, ↓nm6, ↓nm7, ↓nm8, ↓nm9, ↓nm10, ↓nm11, ↓nm12, ↓nm13, ↓nm14, ↓nm15, ↓nm16, ↓nm17, ↓nm18, ↓nm19, ↓nm20, ↓nm21, ↓nm22, ↓nm23, ↓nm24, ↓nm25, ↓nm26, ↓nm27, ↓nm28, ↓nm29, ↓nm30, ↓nm31, ↓nm32, ↓nm33, ↓nm34, ↓nm35, ↓nm36, ↓nm37, ↓nm38, ↓nm39, ↓sPar_n, ↓sPar3_n, ↓sAug_n, ↓reduceIte, List.set_set, ↓sNext_e, ↓sSeq_e, ↓sBrk_e, ↓sCnt_e, ↓sDrop_e, ↓sRet_e, ↓sRetN_e, ↓sIf_e, ↓sAsg_e, ↓sRaise_e, ↓nmG_e, ↓tupG_e, ↓gsNil_e, ↓gsCons_e, ↓subG_e, ↓dC_e, ↓dOp_e, ↓dUn_e, ↓dChain_e, ↓bOf_e, ↓bAnd_e, ↓bOr_e, ↓bNot_e, ↓bYes_e, ↓dAnd_e, ↓dOr_e, ↓dNot_e, ↓dIf_e, ↓lNil_e, ↓lCons_e, ↓dLst_e, ↓dDic0_e, ↓dDic1_e, ↓dLenSetG_e, dIsB_b, dIsNB_b, dSD_e, ↓dLstO_e, ↓dTup_e, ↓dCB_e, ↓dCall_e, ↓dCallK_e, ↓oNone_e, ↓oSome_e, ↓dSl_e, ↓dBM_e, ↓dBM0_e, ↓dFz_e, ↓dFz2_e, ↓d2_e, ↓dLone_e, ↓lStar_e, ↓dCallA_e, ↓dMakeA_e, ↓dMakeV_e, ↓dMethA_e, ↓dCMethA_e, ↓dPropA_e, ↓dFld_e, ↓sFldS_e, ↓dFzI_e, ↓fzID_o, ↓dM1_e, ↓dM0_e, ↓dRev_e, ↓mSplit_s, ↓mUpper_s, ↓exStr, ↓exZ, ↓cStrI_i, ↓cIntS_s, ↓iStrD_e, ↓dEqF_s, ↓dNeF_s, ↓dEqF_i, ↓dNeF_i, ↓dSign_s, ↓sRaiseI_e, ↓dXFld_e, ↓mPop_e, ↓dAddO_l, ↓dAddO_o, ↓dMk0_e, ↓sKeep_e, ↓sTryH_e, ↓dCVal_e, ↓dConI_e, ↓cLen_s, ↓dIx_s, ↓dSlS_s, ↓dAdd_s, ↓cTup_l, ↓pkP_e, ↓pkS_e, ↓lstG_e, ↓asI_i, ↓iSeq_e, ↓iTupD_e, ↓iRg1_e, ↓iRg2_e, ↓iZipD_e, iZrD_e, ↓iEnumD_e, ↓sFor_e, ↓dLc_e, ↓finF_e, ↓finO_e, ↓fzD_l, ↓fzD_i, ↓fzD_o, ↓fzD2_o, ↓dSetO_e, ↓mAppend_e, ↓mClear_e, ↓mReverse_e, List.map_cons, List.map_nil, List.length_cons, List.length_nil, rep_0, rep_s, List.cons_append, List.nil_append, List.getElem?_cons_zero, List.getElem?_cons_succ, List.set_cons_zero, List.set_cons_succ, Nat.reduceAdd, Nat.reduceSub, Nat.zero_add, Nat.add_zero, ↓exSS, ↓exB, ↓exI, ↓ex1, ↓ex2, ↓ex3, ↓exI1, ↓exI2, ↓exT, ↓exC, ↓exAs, ↓dAdd_i, ↓dAddI_i, ↓dSubI_i, ↓dLRg_e, ↓dIsiT_e, ↓dLenSet_e, ↓bChain3_e, ↓dLRg2_e, ↓iRg3_e, ↓dLc2_e, ↓dSlT_t, dAddT_t, ↓dNewK_e, ↓dDis1_e, ↓sDkp_e, ↓dDGet_e, ↓dDGet2_e, ↓dLVals_e, ↓kD_ex_i, ↓dSS_e, ↓dST_e, ↓dSI_e, ↓lsG_e, ↓dMulI_i, ↓dNew_e, ↓sDct_e, ↓dMulO_l, ↓dLRgO_e, ↓dAdd_l, ↓dSub_i, ↓dMul_i, ↓dMul_l, ↓dMod_i, ↓dDiv_i, ↓dPow_i, ↓dLt_i, ↓dLe_i, ↓dGt_i, ↓dGe_i, ↓uNeg_i, ↓cMax2_i, ↓cMin2_i, ↓cAbs_i, ↓cInt_i, ↓cInt_b, ↓cLen_l, ↓cLen_q, ↓cLen_t, ↓cList_l, ↓cList_q, ↓cList_t, ↓cListO_l, ↓cListO_t, ↓dIx_l, ↓dIx_q, ↓dIx_t, ↓dIx_o', ↓exS, ↓exL, at_1, at_2, at_3, at_4, ix30, ix31, ix32, ↓dSlL_l, ↓dSlL_q, ↓asQ_l, ↓asL_l, at_0, ↓isi_non_int, ↓isi_non_bool, ↓isi_non_str, ↓isi_non_list, ↓isi_non_tuple, ↓isi_non_dict, ↓isi_bl_int, ↓isi_bl_bool, ↓isi_bl_str, ↓isi_bl_list, ↓isi_bl_tuple, ↓isi_bl_dict, ↓isi_int_int, ↓isi_int_bool, ↓isi_int_str, ↓isi_int_list, ↓isi_int_tuple, ↓isi_int_dict, ↓isi_str_int, ↓isi_str_bool, ↓isi_str_str, ↓isi_str_list, ↓isi_str_tuple, ↓isi_str_dict, ↓isi_lst_int, ↓isi_lst_bool, ↓isi_lst_str, ↓isi_lst_list, ↓isi_lst_tuple, ↓isi_lst_dict, ↓isi_sq_int, ↓isi_sq_bool, ↓isi_sq_str, ↓isi_sq_list, ↓isi_sq_tuple, ↓isi_sq_dict, ↓isi_tup_int, ↓isi_tup_bool, ↓isi_tup_str, ↓isi_tup_list, ↓isi_tup_tuple, ↓isi_tup_dict, ↓isi_dic_int, ↓isi_dic_bool, ↓isi_dic_str, ↓isi_dic_list, ↓isi_dic_tuple, ↓isi_dic_dict, if_true, if_false, Bool.not_true, Bool.not_false, true_and, and_true, reduceCtorEq, Bool.true_eq_false, Bool.false_eq_true, ite_true, ite_false, ↓exAny, ↓isLst_l, Int.toNat_natCast, Int.reduceToNat, dVar_e, sPar_e, sPar3_e, sAug_e])))
--MK
--DROP p_stops
--DROP p_width_in
--DROP p_width_of
theorem dNe_nil {S : Sto} {Φ : KD} {x : D} {ps : List PyData} {n m : Nat} (r : PyR S x (.list ps)) (f : Fit n m (.list ps)) (hn : n ≤ 64) (h : Φ S (.bl (!decide (ps = [])))) : dNe x (.lst []) S Φ := by
  refine ⟨.list ps, .list [], r, .lst .nil, f.shaped hn, by decide, ?_⟩
  cases ps with
  | nil => exact h
  | cons a b => exact h
theorem tabsF_snoc (t : List (List Int)) {i : Nat} (h : i < t.length) : tabsF (t.take (i + 1)) = tabsF (t.take i) ++ [(t[i]).length - 1] := by
  unfold tabsF
  rw [List.take_add_one, List.getElem?_eq_getElem h, List.map_append]
  rfl
theorem p_tabs_in : Rets sp_tabs_in T_tabs_in N_tabs_in := by
  rintro _ S Φ Ψ ⟨d, t, rfl, ⟨ds, e, rs⟩, ok, h⟩
  unfold T_tabs_in
  walk_at "dl"
  have h3 := rs.len
  have h4 := ok.hi
  refine ⟨⟨_, asQ_L e⟩, lc_s (ds := ds) (fun i acc S' => S' = S ∧ acc = natsD (tabsF (t.take i))) (small (by omega)) ⟨rfl, rfl⟩ (fun i acc S' hp => by rw [hp.1]; exact asQ_L e) (fun i acc S' hi hp => ?_) fun acc S' hp => ?_⟩
  · obtain ⟨rfl, rfl⟩ := hp
    have hi2 : i < t.length := by omega
    walk_at "dl"
    rw [cLen_L (rs.get hi2 hi), List.length_map]
    walk_at "dl"
    have := (ok.row _ (List.getElem_mem hi2)).lo
    rw [tabsF_snoc t hi2]
    unfold natsD
    rw [List.map_append, show ((((t[i]).length : Nat) : Int) - 1) = (((t[i]).length - 1 : Nat) : Int) by omega]
    rfl
  · obtain ⟨rfl, rfl⟩ := hp
    walk_at "dl"
    rw [h3, List.take_length]
    exact ret_now h
theorem natsD_get {ns : List Nat} {i : Nat} {x : D} (h : (natsD ns ++ [D.int 0])[i]? = some x) : i ≤ ns.length ∧ x = .int ((ns.getD i 0 : Nat) : Int) := by
  unfold natsD at h
  by_cases c : i < ns.length
  · rw [List.getElem?_append_left (by rw [List.length_map]; exact c), List.getElem?_map, List.getElem?_eq_getElem c] at h
    cases h
    exact ⟨by omega, by rw [List.getD_eq_getElem?_getD, List.getElem?_eq_getElem c]; rfl⟩
  · rw [List.getElem?_append_right (by rw [List.length_map]; omega), List.length_map] at h
    have : i - ns.length = 0 := by
      by_cases q : i - ns.length = 0
      · exact q
      · rw [List.getElem?_eq_none (by simp; omega)] at h; cases h
    rw [this] at h
    cases h
    exact ⟨by omega, by rw [List.getD_eq_getElem?_getD, List.getElem?_eq_none (by omega)]; rfl⟩
theorem runs_len (p : Nat → Bool) : ∀ k, (colRuns p k).1.length ≤ k
  | 0 => Nat.le_refl _
  | k + 1 => by
    have ih := runs_len p k
    unfold colRuns
    split
    · exact Nat.le_succ_of_le ih
    · split
      · exact Nat.le_succ_of_le ih
      · show (_ ++ [_]).length ≤ _
        rw [List.length_append]
        exact Nat.succ_le_succ ih
theorem blksF_snoc (ns : List Nat) (i : Nat) : blksF ns (i + 1) = blksF ns i ++ colBlks ns i := by
  unfold blksF
  rw [List.range_succ, List.flatMap_append]
  simp
theorem blksF_len (ns : List Nat) : ∀ i, (blksF ns i).length ≤ i * (ns.length + 1)
  | 0 => Nat.zero_le _
  | i + 1 => by
    have ih := blksF_len ns i
    have l2 : (colBlks ns i).length ≤ ns.length + 1 := by unfold colBlks; rw [List.length_map]; exact runs_len _ _
    rw [blksF_snoc, List.length_append, Nat.add_mul, Nat.one_mul]
    omega
def cutOf (o : Option Nat) : D := match o with
  | none => .non
  | some f => .int (f : Int)
theorem low_blks (n : Nat) (bs : List Blk) : (blksD bs).low n = true := by
  unfold blksD
  rw [D.low]
  exact lowA_map _ _ (fun b => by unfold blkD; simp [D.low, lowA]) bs
theorem p_blocks_of_column : Rets sp_blocks_of_column T_blocks_of_column N_blocks_of_column := by
  rintro _ S Φ Ψ ⟨ns, c, rfl, hl, h⟩
  unfold T_blocks_of_column
  walk_at "dl"
  have ln : (natsD ns).length = ns.length := by unfold natsD; rw [List.length_map]
  have ll : (natsD ns ++ [D.int 0]).length = ns.length + 1 := by rw [List.length_append, ln]; rfl
  refine ⟨small, _, rfl, small (by rw [ll]; omega), ?_⟩
  refine for_l (ds := enumD (natsD ns ++ [D.int 0])) (fun i Γ S' => ∃ o1 o2, Γ = [some (.lst (natsD ns)), some (.int c), some (.own S.length), some (cutOf (colRuns (hasT ns c) i).2), o1, o2] ∧ S' = S ++ [.lst ((colRuns (hasT ns c) i).1.map fun b => blkD (c, b.1, b.2))]) ⟨_, _, rfl, rfl⟩ (fun i Γ' S' hi hp => ?_) fun Γ' S' hp => ?_
  · obtain ⟨o1, o2, rfl, rfl⟩ := hp
    obtain ⟨x, hx, ex⟩ := enumD_get (List.getElem?_eq_getElem hi)
    obtain ⟨hi2, rfl⟩ := natsD_get hx
    rw [ex]
    have hR := runs_len (hasT ns c) i
    have hS : ∀ q, colRuns q (i + 1) = if q i then ((colRuns q i).1, some ((colRuns q i).2.getD i)) else match (colRuns q i).2 with
      | none => ((colRuns q i).1, none)
      | some f => ((colRuns q i).1 ++ [(f, i - 1)], none) := fun _ => rfl
    have hO : ∀ f, (colRuns (hasT ns c) i).2 = some f → f < i := fun f e => ((runs_ok (hasT ns c) i).opn f e).1
    rw [hS]
    generalize (colRuns (hasT ns c) i).1 = bs at hR ⊢
    generalize (colRuns (hasT ns c) i).2 = o at hO ⊢
    walk_at "dl"
    rw [sJ_e]
    walk_at "dl"
    have hq : hasT ns c i = decide (c < ns.getD i 0) := rfl
    rw [hq]
    by_cases hp : c < ns.getD i 0
    · rw [if_pos (by rw [decide_eq_true_eq]; omega), if_pos (by rw [decide_eq_true_eq]; omega)]
      cases o with
      | none =>
        rw [show dIsN (cutOf none) D.non = fun S Φ => Φ S (.bl true) from rfl]
        walk_at "dl"
        rw [sJ_e]
        walk_at "dl"
        rw [if_neg (by rw [decide_eq_true_eq]; omega)]
        exact ⟨_, _, rfl⟩
      | some f =>
        rw [show dIsN (cutOf (some f)) D.non = fun S Φ => Φ S (.bl false) from rfl]
        walk_at "dl"
        rw [sJ_e]
        walk_at "dl"
        rw [if_neg (by rw [decide_eq_true_eq]; omega)]
        exact ⟨_, _, rfl⟩
    · rw [if_neg (by rw [decide_eq_true_eq]; omega), if_neg (by rw [decide_eq_true_eq]; omega)]
      walk_at "dl"
      rw [sJ_e]
      walk_at "dl"
      rw [if_pos (by rw [decide_eq_true_eq]; omega)]
      cases o with
      | none =>
        rw [show dNotN (cutOf none) D.non = fun S Φ => Φ S (.bl false) from rfl]
        walk_at "dl"
        exact ⟨_, _, rfl⟩
      | some f =>
        have := hO f rfl
        rw [show dNotN (cutOf (some f)) D.non = fun S Φ => Φ S (.bl true) from rfl]
        walk_at "dl"
        refine ⟨isLst_at get_at, small, _, get_at, under (by rw [List.length_map]; omega), _, _, rfl, ?_⟩
        rw [set_at, List.map_append]
        show _ = S ++ [Cell.lst (_ ++ [D.tup [.int c, .int f, .int ((i - 1 : Nat) : Int)]])]
        rw [show ((i - 1 : Nat) : Int) = (i : Int) - 1 by omega]
        rfl
  · obtain ⟨o1, o2, rfl, rfl⟩ := hp
    walk_at "dl"
    refine ⟨_, get_at, ?_⟩
    rw [set_at, enumD_len, ll]
    have lw := low_blks S.length (colBlks ns c)
    unfold colBlks blksD at h lw
    rw [List.map_map] at h lw
    exact ret_cut lw h
theorem p_blocks_by_tabs : Rets sp_blocks_by_tabs T_blocks_by_tabs N_blocks_by_tabs := by
  rintro _ S Φ Ψ ⟨ns, rfl, hl, h⟩
  unfold T_blocks_by_tabs
  walk_at "dl"
  refine ⟨small, by decide, by decide, ?_⟩
  refine for_r0 (fun i Γ S' => ∃ o, Γ = [some (.lst (natsD ns)), some (.own S.length), o] ∧ S' = S ++ [.lst ((blksF ns i).map blkD)]) ⟨_, rfl, rfl⟩ (fun i Γ' S' hi hp => ?_) fun Γ' S' hp => ?_
  · obtain ⟨o, rfl, rfl⟩ := hp
    walk_at "dl"
    refine ⟨isLst_at get_at, ns, i, rfl, hl, ?_⟩
    have l1 := blksF_len ns i
    have l2 : (colBlks ns i).length ≤ ns.length + 1 := by unfold colBlks; rw [List.length_map]; exact runs_len _ _
    have hi2 : i < 11 := hi
    have l3 : i * (ns.length + 1) ≤ 11 * 61 := Nat.mul_le_mul (by omega) (by omega)
    refine ⟨_, _, get_at, rfl, small (by rw [List.length_map, List.length_map]; omega), _, rfl, ?_⟩
    rw [set_at, blksF_snoc, List.map_append]
  · obtain ⟨o, rfl, rfl⟩ := hp
    walk_at "dl"
    refine ⟨_, get_at, ?_⟩
    rw [set_at]
    exact ret_cut (low_blks _ _) h
theorem p_blocks_in : Rets sp_blocks_in T_blocks_in N_blocks_in := by
  rintro _ S Φ Ψ ⟨d, t, rfl, tb, ok, h⟩
  unfold T_blocks_in
  walk_at "dl"
  exact ⟨d, t, rfl, tb, ok, _, rfl, by rw [tabsF_len]; exact ok.hi, ret_now h⟩
theorem cut_mid {α : Type} {xs : List α} {i j : Nat} (h : i ≤ j) (h2 : j ≤ xs.length) : cutD xs (some (i : Int)) (some (j : Int)) = (xs.drop i).take (j - i) := by
  unfold cutD
  rw [HT.sIx_nat, HT.sIx_nat, Nat.min_eq_left h2, Nat.min_eq_left (by omega)]
theorem p_greatest_in : Rets sp_greatest_in T_greatest_in N_greatest_in := by
  rintro _ S Φ Ψ ⟨d, t, b, rfl, ⟨ds, e, rs⟩, ok, bk, h⟩
  obtain ⟨c, f, l⟩ := b
  unfold T_greatest_in
  walk_at "dl"
  refine ⟨_, rfl, rfl, _, _, rfl, _, _, rfl, _, _, rfl, rfl, ?_⟩
  walk_at "dl"
  rw [dSlL_L e]
  walk_at "dl"
  have h3 := rs.len
  have h4 := ok.hi
  have hf : f ≤ l := bk.le
  have hl : l < t.length := bk.lt
  rw [show ((l : Int) + 1) = ((l + 1 : Nat) : Int) by omega, cut_mid (by omega) (by omega)]
  have dl : ((ds.drop f).take (l + 1 - f)).length = l + 1 - f := by rw [List.length_take, List.length_drop]; omega
  have row : ∀ k, k < l + 1 - f → ∃ h : f + k < t.length, ∃ h2 : c < (t[f + k]).length, (colOf t c)[f + k]? = some (some (t[f + k])[c]) ∧ (t.getD (f + k) []).getD c 0 = (t[f + k])[c] := fun k hk => by
    have ht : f + k < t.length := by omega
    obtain ⟨v, e1, e2⟩ := colOf_some (bk.at_ (f + k) (by show f ≤ _; omega) (by show _ ≤ l; omega))
    rw [tab_at ht] at e2 ⊢
    obtain ⟨q1, q2⟩ := List.getElem?_eq_some_iff.mp e2
    exact ⟨ht, q1, by rw [q2]; exact e1, by rw [List.getD_eq_getElem?_getD, List.getElem?_eq_getElem q1]; rfl⟩
  refine lc_s (ds := (ds.drop f).take (l + 1 - f)) (fun i acc S' => S' = S ∧ acc = ((List.range i).map fun k => (t.getD (f + k) []).getD c 0).map D.int) (small (by omega)) ⟨rfl, rfl⟩ (fun i acc S' hp => rfl) (fun i acc S' hi hp => ?_) fun acc S' hp => ?_
  · obtain ⟨rfl, rfl⟩ := hp
    rw [dl] at hi
    obtain ⟨q0, q1, q2, q3⟩ := row i hi
    have ed : asL S' ((ds.drop f).take (l + 1 - f))[i] = some ((t[f + i]).map D.int) := by
      rw [List.getElem_take, List.getElem_drop]
      exact rs.get q0 (by omega)
    walk_at "dl"
    rw [dIx_L ed]
    refine ⟨.int (t[f + i])[c], by rw [at_nat, List.getElem?_map, List.getElem?_eq_getElem q1]; rfl, rfl, ?_⟩
    rw [List.range_succ, List.map_append, List.map_append, List.map_cons, List.map_nil, q3]
    rfl
  · obtain ⟨rfl, rfl⟩ := hp
    walk_at "dl"
    rw [dl]
    refine ⟨_, rfl, by rw [List.length_map, List.length_range]; omega, fun m hm hle => ret_now (h m ?_ fun i v h5 h6 h7 => ?_)⟩
    · obtain ⟨k, hk, rfl⟩ := List.mem_map.mp hm
      obtain ⟨q0, q1, q2, q3⟩ := row k (List.mem_range.mp hk)
      have := List.mem_range.mp hk
      exact ⟨f + k, by show f ≤ _; omega, by show _ ≤ l; omega, by rw [q3]; exact q2⟩
    · have h5 : f ≤ i := h5
      have h6 : i ≤ l := h6
      obtain ⟨q0, q1, q2, q3⟩ := row (i - f) (by omega)
      have e5 : f + (i - f) = i := by omega
      simp only [e5] at q0 q1 q2 q3
      have h7 : (colOf t c)[i]? = some (some v) := h7
      rw [q2] at h7
      have : v = (t[i])[c] := (Option.some.inj (Option.some.inj h7)).symm
      rw [this, ← q3]
      refine hle _ (List.mem_map.mpr ⟨i - f, List.mem_range.mpr (by omega), by rw [e5]⟩)
theorem p_room_of (C : Addr) : Rets (sp_room_of C) (T_room_of C) N_room_of := by
  rintro _ S Φ Ψ ⟨d, s, t, b, ks, g, l, rfl, tb, ok, bk, es, h⟩
  unfold T_room_of
  walk_at "dl"
  refine ⟨_, es, s, ks, g, l, rfl, es, d, t, b, rfl, tb, ok, bk, fun m h1 h2 => ?_⟩
  show RetOk S Φ S (.int (if m > l then m else l))
  have r : IsRoom l (colOf t b.1) b.2.1 b.2.2 (if m > l then m else l) := by
    by_cases q : m > l
    · rw [if_pos q]
      exact ⟨by omega, h2, .inr h1⟩
    · rw [if_neg q]
      exact ⟨Int.le_refl _, fun i v a b' e => Int.le_trans (h2 i v a b' e) (by omega), .inl rfl⟩
  rw [r.eq (bk.room l (Nat.le_refl _) bk.le)]
  exact ret_now h
theorem range_set {α : Type} (F : Nat → α) (n j : Nat) (v : α) : ((List.range n).map F).set j v = (List.range n).map fun i => if i = j then v else F i := by
  apply List.ext_getElem
  · rw [List.length_set, List.length_map, List.length_map]
  · intro i h1 h2
    rw [List.getElem_set, List.getElem_map, List.getElem_map, List.getElem_range]
    by_cases q : j = i
    · rw [if_pos q, if_pos q.symm]
    · rw [if_neg q, if_neg (fun e => q e.symm)]
theorem cellsD_len (t : List (List Int)) : (cellsD t).length = t.length := by simp [cellsD]
theorem cellsF_get {S : Sto} {F : Nat → List Int} {n j : Nat} (X : Sto) (h : j < n) : (S ++ cellsD ((List.range n).map F) ++ X)[S.length + j]? = some (.lst ((F j).map D.int)) := by
  rw [List.append_assoc, List.getElem?_append_right (Nat.le_add_right _ _), Nat.add_sub_cancel_left]
  refine get_app ?_
  unfold cellsD
  rw [List.getElem?_map, List.getElem?_map, List.getElem?_range h]
  rfl
theorem cellsF_set {S : Sto} {F : Nat → List Int} {n j : Nat} (X : Sto) (h : j < n) (r : List Int) : (S ++ cellsD ((List.range n).map F) ++ X).set (S.length + j) (.lst (r.map D.int)) = S ++ cellsD ((List.range n).map fun i => if i = j then r else F i) ++ X := by
  rw [List.append_assoc, List.set_append_right _ _ (Nat.le_add_right _ _), Nat.add_sub_cancel_left, set_app (by rw [cellsD_len, List.length_map, List.length_range]; exact h), ← List.append_assoc]
  congr 2
  rw [← range_set]
  unfold cellsD
  rw [List.map_set]
theorem p_rooms_in (C : Addr) : Rets (sp_rooms_in C) (T_rooms_in C) N_rooms_in := by
  rintro _ S Φ Ψ ⟨d, s, t, ks, g, l, rfl, ⟨ds, e, rs⟩, ok, es, h⟩
  have tb : TabS S d t := ⟨ds, e, rs⟩
  unfold T_rooms_in
  walk_at "dl"
  have h3 := rs.len
  have h4 := ok.hi
  refine ⟨⟨_, asQ_L e⟩, lc_s (ds := ds) (fun i acc S' => S' = S ++ cellsD ((List.range i).map fun _ => []) ∧ acc = ownsD S.length i) (small (by omega)) ⟨by simp [cellsD], rfl⟩ (fun i acc S' hp => by rw [hp.1]; exact asQ_L (asL_app e)) (fun i acc S' hi hp => ?_) fun acc S' hp => ?_⟩
  · obtain ⟨rfl, rfl⟩ := hp
    walk_at "dl"
    refine ⟨small, ?_, ?_⟩
    · rw [List.append_assoc]
      unfold cellsD
      rw [List.range_succ, List.map_append, List.map_append]
      rfl
    · unfold ownsD
      rw [List.length_append, cellsD_len, List.length_map, List.length_range, List.range_succ, List.map_append]
      rfl
  obtain ⟨rfl, rfl⟩ := hp
  walk_at "dl"
  have eL : (S ++ cellsD ((List.range ds.length).map fun _ => [])).length = S.length + t.length := by rw [List.length_append, cellsD_len, List.length_map, List.length_range, h3]
  refine ⟨d, t, rfl, by rw [List.append_assoc]; exact tb.app, ok, ⟨_, rfl⟩, ?_⟩
  rw [eL, h3]
  have lb := blksF_len (tabsF t) 11
  rw [tabsF_len] at lb
  have lb2 : 11 * (t.length + 1) ≤ 11 * 61 := Nat.mul_le_mul (by omega) (by omega)
  refine for_l (ds := (blksF (tabsF t) 11).map blkD) (fun i Γ S' => ∃ o1 o2 o3, Γ = [some d, some s, some (.own (S.length + t.length)), o1, o2, o3, none] ∧ S' = S ++ cellsD ((List.range t.length).map fun j => (((blksF (tabsF t) 11).take i).filter (hasB j)).map (roomB l t)) ++ [.lst (ownsD S.length t.length)]) ⟨_, _, _, rfl, rfl⟩ (fun i Γ' S' hi hp => ?_) fun Γ' S' hp => ?_
  · obtain ⟨o1, o2, o3, rfl, rfl⟩ := hp
    rw [List.length_map] at hi
    have bk := (blksF_ok (List.getElem_mem hi)).1
    rw [List.getElem_map]
    have hb : ∀ j, (((blksF (tabsF t) 11).take (i + 1)).filter (hasB j)).map (roomB l t) = (((blksF (tabsF t) 11).take i).filter (hasB j)).map (roomB l t) ++ (if hasB j (blksF (tabsF t) 11)[i] = true then [roomB l t (blksF (tabsF t) 11)[i]] else []) := fun j => by
      rw [List.take_add_one, List.getElem?_eq_getElem hi, List.filter_append, List.map_append]
      congr 1
      show (List.filter (hasB j) [(blksF (tabsF t) 11)[i]]).map _ = _
      by_cases q : hasB j (blksF (tabsF t) 11)[i] = true
      · rw [List.filter_cons_of_pos q, if_pos q]; rfl
      · rw [List.filter_cons_of_neg q, if_neg q]; rfl
    have hl : ∀ j, ((((blksF (tabsF t) 11).take i).filter (hasB j)).map (roomB l t)).length ≤ 671 := fun j => by
      rw [List.length_map]
      refine Nat.le_trans (List.length_filter_le _ _) ?_
      rw [List.length_take]
      omega
    obtain ⟨B0, hB0⟩ : ∃ B0 : Nat → List Int, B0 = fun j => (((blksF (tabsF t) 11).take i).filter (hasB j)).map (roomB l t) := ⟨_, rfl⟩
    have hB : ∀ j, (((blksF (tabsF t) 11).take i).filter (hasB j)).map (roomB l t) = B0 j := fun j => by rw [hB0]
    simp only [hb, hB]
    simp only [hB] at hl
    clear hB0 hB hb
    generalize (blksF (tabsF t) 11)[i] = b at bk ⊢
    obtain ⟨c, f, m⟩ := b
    have hf : f ≤ m := bk.le
    have hm : m < t.length := bk.lt
    walk_at "dl"
    refine ⟨d, s, t, (c, f, m), ks, g, l, rfl, by rw [List.append_assoc]; exact tb.app, ok, bk, by rw [List.append_assoc]; exact asI_app es, ?_⟩
    generalize roomB l t (c, f, m) = r
    unfold blkD
    walk_at "dl"
    have p62 : (100 : Int) < 2 ^ 62 := by decide
    refine ⟨⟨by omega, by omega, by omega, by omega⟩, ?_⟩
    rw [show ((m : Int) + 1 - (f : Int)).toNat = m + 1 - f by omega]
    refine for_r (fun k Γ S' => ∃ o3, Γ = [some d, some s, some (.own (S.length + t.length)), some (.tup [.int c, .int f, .int m]), some (.int r), o3, none] ∧ S' = S ++ cellsD ((List.range t.length).map fun j => B0 j ++ if f ≤ j ∧ j < f + k then [r] else []) ++ [.lst (ownsD S.length t.length)]) ⟨_, rfl, ?_⟩ (fun k Γ' S' hk hp => ?_) fun Γ' S' hp => ?_
    · congr 2
      congr 1
      apply List.map_congr_left
      intro j _
      rw [if_neg (by omega), List.append_nil]
    · obtain ⟨o3, rfl, rfl⟩ := hp
      walk_at "dl"
      have hfk : f + k < t.length := by omega
      have eO : (S ++ cellsD ((List.range t.length).map fun j => B0 j ++ if f ≤ j ∧ j < f + k then [r] else []) ++ [Cell.lst (ownsD S.length t.length)])[S.length + t.length]? = some (.lst (ownsD S.length t.length)) := by
        have : S.length + t.length = (S ++ cellsD ((List.range t.length).map fun j => B0 j ++ if f ≤ j ∧ j < f + k then [r] else [])).length := by rw [List.length_append, cellsD_len, List.length_map, List.length_range]
        rw [this]
        exact get_at
      have eC := cellsF_get (S := S) (F := fun j => B0 j ++ if f ≤ j ∧ j < f + k then [r] else []) [Cell.lst (ownsD S.length t.length)] hfk
      refine ⟨_, eO, _, by rw [show ((f : Int) + (k : Int)) = ((f + k : Nat) : Int) by omega, at_nat, owns_at hfk], isLst_at eC, _, eC, under (by rw [List.length_map, List.length_append]; have := hl (f + k); split <;> simp <;> omega), _, rfl, ?_⟩
      have eS := cellsF_set (S := S) (F := fun j => B0 j ++ if f ≤ j ∧ j < f + k then [r] else []) [Cell.lst (ownsD S.length t.length)] hfk (B0 (f + k) ++ [r])
      rw [if_neg (by omega), List.append_nil, show (B0 (f + k)).map D.int ++ [D.int r] = (B0 (f + k) ++ [r]).map D.int by rw [List.map_append]; rfl, eS]
      congr 2
      congr 1
      apply List.map_congr_left
      intro j _
      by_cases q : j = f + k
      · rw [if_pos q, q, if_pos (by omega)]
      · rw [if_neg q]
        by_cases q2 : f ≤ j ∧ j < f + k
        · rw [if_pos q2, if_pos (by omega)]
        · rw [if_neg q2, if_neg (by omega)]
    · obtain ⟨o3, rfl, rfl⟩ := hp
      refine ⟨_, _, _, rfl, ?_⟩
      congr 2
      congr 1
      apply List.map_congr_left
      intro j _
      unfold hasB hasL
      by_cases q : f ≤ j ∧ j ≤ m
      · rw [if_pos (by omega), if_pos (by simp; omega)]
      · rw [if_neg (by omega), if_neg (by simp; omega)]
  · obtain ⟨o1, o2, o3, rfl, rfl⟩ := hp
    walk_at "dl"
    refine ret_now ?_
    rw [List.length_map, List.take_length]
    have er : ((List.range t.length).map fun j => ((blksF (tabsF t) 11).filter (hasB j)).map (roomB l t)) = roomsT l t := by
      unfold roomsT
      apply List.map_congr_left
      intro j hj
      have hj := List.mem_range.mp hj
      refine blks_rooms l hj ?_
      unfold tabAt
      rw [tab_at hj]
      have := (ok.row _ (List.getElem_mem hj)).hi
      omega
    have el : (roomsT l t).length = t.length := by unfold roomsT; rw [List.length_map, List.length_range]
    rw [er]
    unfold newTab at h
    rw [el] at h
    exact h
theorem rooms_get {l : Int} {t : List (List Int)} {i : Nat} (h : i < (roomsT l t).length) : (roomsT l t)[i] = roomsOf l t i := by simp [roomsT]
theorem stops_get {g l : Int} {t : List (List Int)} {i : Nat} (h : i < (stopsF g l t).length) : (stopsF g l t)[i] = rowStops g l t i := by simp [stopsF]
theorem zipD_at {xs ys : List D} {i : Nat} (h : i < xs.length) (h2 : i < ys.length) : (zipD xs ys)[i]'(by unfold zipD; rw [List.length_map, List.length_zip]; omega) = .tup [xs[i], ys[i]] := by simp [zipD]
def endS (g : Int) : Int → List Int → Int
  | s, [] => s
  | s, x :: xs => endS g (s + (x + g)) xs
theorem endS_snoc (g x : Int) : ∀ (xs : List Int) (s : Int), endS g s (xs ++ [x]) = endS g s xs + (x + g)
  | [], _ => rfl
  | y :: xs, s => endS_snoc g x xs (s + (y + g))
theorem stops_snoc (g x : Int) : ∀ (xs : List Int) (s : Int), stopsFrom g s (xs ++ [x]) = stopsFrom g s xs ++ [endS g s xs + (x + g)]
  | [], _ => rfl
  | y :: xs, s => by
    show _ :: stopsFrom g (s + (y + g)) (xs ++ [x]) = _ :: stopsFrom g (s + (y + g)) xs ++ _
    rw [stops_snoc g x xs]
    rfl
theorem p_stops_in (C : Addr) : Rets (sp_stops_in C) (T_stops_in C) N_stops_in := by
  rintro _ S Φ Ψ ⟨d, s, t, ks, g, l, rfl, tb, ok, es, h⟩
  unfold T_stops_in
  walk_at "dl"
  refine ⟨small, d, s, t, ks, g, l, rfl, tb.app, ok, asI_app es, fz_new fun Z => ?_⟩
  refine ⟨⟨_, rfl⟩, ?_⟩
  have lr : (roomsT l t).length = t.length := by unfold roomsT; rw [List.length_map, List.length_range]
  have lr' : (stopsF g l t).length = t.length := by unfold stopsF; rw [List.length_map, List.length_range]
  refine for_l (ds := (roomsT l t).map rowD) (fun i Γ S' => ∃ o1 o2 o3 o4 Y, Γ = [some d, some s, some (.own S.length), o1, o2, o3, o4] ∧ S' = S ++ (.lst (((stopsF g l t).take i).map rowD) :: Y)) ⟨_, _, _, _, Z, rfl, by rw [List.append_assoc]; rfl⟩ (fun i Γ' S' hi hp => ?_) fun Γ' S' hp => ?_
  · obtain ⟨o1, o2, o3, o4, Y, rfl, rfl⟩ := hp
    rw [List.length_map] at hi
    rw [List.getElem_map]
    walk_at "dl"
    refine ⟨small, ?_⟩
    have hi2 : i < t.length := by omega
    have er : (roomsT l t)[i] = roomsOf l t i := rooms_get _
    rw [er]
    obtain ⟨W, hW⟩ : ∃ W, W = S ++ Cell.lst (((stopsF g l t).take i).map rowD) :: Y := ⟨_, rfl⟩
    rw [← hW]
    have lro : (roomsOf l t i).length ≤ 12 := by
      unfold roomsOf
      rw [List.length_map, List.length_range, tab_at hi2]
      have := (ok.row _ (List.getElem_mem hi2)).hi
      omega
    refine for_l (ds := (roomsOf l t i).map D.int) (fun k Γ S' => ∃ o4, Γ = [some d, some s, some (.own S.length), some (.lst ((roomsOf l t i).map D.int)), some (.int (endS g 0 ((roomsOf l t i).take k))), some (.own W.length), o4] ∧ S' = W ++ [.lst ((stopsFrom g 0 ((roomsOf l t i).take k)).map D.int)]) ⟨_, rfl, rfl⟩ (fun k Γ' S' hk hp => ?_) fun Γ' S' hp => ?_
    · obtain ⟨o4, rfl, rfl⟩ := hp
      rw [List.length_map] at hk
      rw [List.getElem_map]
      walk_at "dl"
      have es2 : asI (W ++ [.lst ((stopsFrom g 0 ((roomsOf l t i).take k)).map D.int)]) s = some (C, styF ks g l) := by rw [hW]; exact asI_app (asI_app es)
      refine ⟨_, es2, s, ks, g, l, rfl, es2, ?_⟩
      walk_at "dl"
      have ek : (roomsOf l t i).take (k + 1) = (roomsOf l t i).take k ++ [(roomsOf l t i)[k]] := by rw [List.take_add_one, List.getElem?_eq_getElem hk]; rfl
      refine ⟨isLst_at get_at, _, get_at, under (by rw [List.length_map, stopsFrom_len, List.length_take]; omega), ?_⟩
      rw [set_at, ek, endS_snoc, stops_snoc, List.map_append]
      exact ⟨_, rfl, rfl⟩
    · obtain ⟨o4, rfl, rfl⟩ := hp
      walk_at "dl"
      rw [List.length_map, List.take_length]
      have eO : W[S.length]? = some (Cell.lst (((stopsF g l t).take i).map rowD)) := by rw [hW]; exact get_at
      refine ⟨isLst_at (get_app eO), _, get_at, ?_⟩
      rw [set_at]
      refine ⟨_, get_app eO, under (by rw [List.length_map, List.length_take]; have := ok.hi; omega), _, _, _, _, Y ++ [.gone], rfl, ?_⟩
      rw [hW, List.append_assoc, show ∀ c, (S ++ ((Cell.lst (((stopsF g l t).take i).map rowD) :: Y) ++ [Cell.gone])).set S.length c = S ++ c :: (Y ++ [.gone]) from fun c => by rw [List.cons_append, set_at]]
      have e2 : (stopsF g l t).take (i + 1) = (stopsF g l t).take i ++ [stopsFrom g 0 (roomsOf l t i)] := by
        rw [List.take_add_one]
        congr 1
        unfold stopsF
        rw [List.getElem?_map, List.getElem?_range hi2]
        rfl
      rw [e2, List.map_append]
      rfl
  · obtain ⟨o1, o2, o3, o4, Y, rfl, rfl⟩ := hp
    walk_at "dl"
    refine ⟨_, get_at, ?_⟩
    rw [List.length_map, lr, ← lr', List.take_length, set_at]
    exact ret_cut (by rw [D.low]; exact lowA_map _ _ (fun r => by rw [D.low]; exact lowA_ints _ _) _) h
theorem at_neg1 {α : Type} {xs : List α} (h : 1 ≤ xs.length) : atI xs (-1) = xs[xs.length - 1]? := by
  unfold atI ixN
  rw [if_neg (by decide), if_pos (by omega)]
  show xs[(-1 + (xs.length : Int)).toNat]? = _
  congr 1
  omega
theorem last_map {r : List Int} (h : 1 ≤ r.length) : (r.map D.int)[(r.map D.int).length - 1]? = some (.int (r.getLastD 0)) := by
  rw [List.length_map, List.getElem?_map, ← List.getLast?_eq_getElem?, List.getLastD_eq_getLast?]
  cases q : r.getLast? with
  | none => rw [List.getLast?_eq_none_iff] at q; subst q; simp at h
  | some x => rfl
theorem TabOk.cells {t : List (List Int)} (ok : TabOk t) : CellsIn t GREAT := fun r hr x hx => (ok.row r hr).at_ x hx
theorem p_ends_in (C : Addr) : Rets (sp_ends_in C) (T_ends_in C) N_ends_in := by
  rintro _ S Φ Ψ ⟨d, s, t, ks, g, l, rfl, ⟨ds, e, rs⟩, ok, es, lk, h⟩
  have tb : TabS S d t := ⟨ds, e, rs⟩
  have h3 := rs.len
  unfold T_ends_in
  walk_at "dl"
  refine ⟨small, d, s, t, ks, g, l, rfl, tb.app, ok, asI_app es, ⟨_, asQ_L (asL_app e)⟩, ⟨_, rfl⟩, ?_⟩
  have lr : (stopsF g l t).length = t.length := by unfold stopsF; rw [List.length_map, List.length_range]
  refine for_s (ds := zipD ds ((stopsF g l t).map rowD)) (fun i Γ S' => ∃ o1 o2 o3, Γ = [some d, some s, some (.own S.length), o1, o2, o3] ∧ S' = S ++ [.lst (((endsF g l t).take i).map D.int)]) ⟨_, _, _, rfl, rfl⟩ (fun i Γ' S' hp => ?_) (fun i Γ' S' hi hp => ?_) fun Γ' S' hp => ?_
  · obtain ⟨o1, o2, o3, rfl, rfl⟩ := hp
    rw [asQ_L (asL_app e)]
    rfl
  · obtain ⟨o1, o2, o3, rfl, rfl⟩ := hp
    have hz : (zipD ds ((stopsF g l t).map rowD)).length = t.length := by
      unfold zipD
      rw [List.length_map, List.length_zip, List.length_map]
      omega
    rw [hz] at hi
    have ez := zipD_at (xs := ds) (ys := (stopsF g l t).map rowD) (i := i) (by omega) (by rw [List.length_map]; omega)
    rw [List.getElem_map, stops_get] at ez
    rw [ez]
    have eR := rs.get hi (by omega)
    have rok := ok.row _ (List.getElem_mem hi)
    have bd := rowStops_in lk.g0 lk.g1 lk.l0 lk.l1 ok.cells (j := i) (by rw [tab_at hi]; exact rok.hi)
    walk_at "dl"
    refine joinD (fun S' d' => S' = S ++ [.lst (((endsF g l t).take i).map D.int)] ∧ d' = .int ((rowStops g l t i).getLastD 0)) (fun S' d' ⟨e1, e2⟩ => ?_) fun N hN => ?_
    · subst e1 e2
      refine ⟨isLst_at get_at, ?_⟩
      rw [dIx_L (asL_app eR)]
      refine ⟨.int ((t[i]).getLastD 0), ?_, ?_⟩
      · rw [at_neg1 (by rw [List.length_map]; exact rok.lo), last_map rok.lo]
      walk_at "dl"
      refine ⟨_, get_at, under (by rw [List.length_map, List.length_take]; have := ok.hi; omega), _, _, _, rfl, ?_⟩
      rw [set_at]
      have e2 : (endsF g l t).take (i + 1) = (endsF g l t).take i ++ [rowEnd g l t i] := by
        rw [List.take_add_one]
        congr 1
        unfold endsF
        rw [List.getElem?_map, List.getElem?_range hi]
        rfl
      rw [e2, List.map_append]
      unfold rowEnd
      rw [tab_at hi]
      rfl
    · walk_at "dl"
      have ln := rowStops_len (g := g) (l := l) (t := t) (j := i)
      rw [tab_at hi] at ln
      refine ⟨small, dNe_nil (pyr_row _) (fit_row (k := 33) (l := 12) (fun y hy => ?_) (by have := rok.hi; omega)) (by decide) ⟨_, rfl, ?_⟩⟩
      · have b := bd y hy
        have : 22 * GREAT < 10 ^ 33 := by decide
        omega
      · cases q : rowStops g l t i with
        | nil => exact hN _ _ ⟨rfl, by rw [q]; rfl⟩
        | cons a r =>
          rw [if_pos (by rfl)]
          refine ⟨_, by rw [at_neg1 (by simp), last_map (by simp)], hN _ _ ⟨rfl, by rw [q]⟩⟩
  · obtain ⟨o1, o2, o3, rfl, rfl⟩ := hp
    walk_at "dl"
    refine ⟨_, get_at, ?_⟩
    have hz : (zipD ds ((stopsF g l t).map rowD)).length = (endsF g l t).length := by
      unfold zipD endsF
      rw [List.length_map, List.length_zip, List.length_map, List.length_map, List.length_range]
      omega
    rw [hz, List.take_length, set_at]
    exact ret_cut (lowA_ints _ _) h
end DL
namespace DL
open PySem PySem.Spec PyProof.Rows L2
local macro_rules | `(tactic| walk_at "dl") => `(tactic| ((try simp only [gstart, gwipe, List.set_set, List.map_cons, List.map_nil, List.length_cons, List.length_nil, rep_0, rep_s, List.cons_append, List.nil_append, List.set_cons_zero, List.set_cons_succ, Nat.reduceAdd, Nat.reduceSub, Nat.zero_add, Nat.add_zero]); (try simp only [↓dv0, ↓dv1, ↓dv2, ↓dv3, ↓dv4, ↓dv5, ↓dv6, ↓dv7, ↓dv8, ↓dv9, ↓dv10, ↓dv11, ↓dv12, ↓dv13, ↓dv14, ↓dv15, ↓dv16, ↓dv17, ↓dv18, ↓dv19, ↓dv20, ↓dv21, ↓dv22, ↓dv23, ↓dv24, ↓dv25, ↓dv26, ↓dv27, ↓dv28, ↓dv29, ↓dv30, ↓dv31, ↓dv32, ↓dv33, ↓dv34, ↓dv35, ↓dv36, ↓dv37, ↓dv38, ↓dv39, ↓nm0, ↓nm1, ↓nm2, ↓nm3, ↓nm4, ↓nm5, ↓nm6, ↓nm7, ↓nm8, ↓nm9, ↓nm10, ↓nm11, ↓nm12, ↓nm13, ↓nm14, ↓nm15, ↓nm16, ↓nm17, ↓nm18, ↓nm19, ↓nm20, ↓nm21, ↓nm22, ↓nm23, ↓nm24, ↓nm25, ↓nm26, ↓nm27, ↓nm28, ↓nm29, ↓nm30, ↓nm31, ↓nm32, ↓nm33, ↓nm34, ↓nm35, ↓nm36, ↓nm37, ↓nm38, ↓nm39, ↓sPar_n, ↓sPar3_n, ↓sAug_n, ↓reduceIte, List.set_set, ↓sNext_e, ↓sSeq_e, ↓sBrk_e, ↓sCnt_e, ↓sDrop_e, ↓sRet_e, ↓sRetN_e, ↓sIf_e, ↓sAsg_e, ↓sRaise_e, ↓nmG_e, ↓tupG_e, ↓gsNil_e, ↓gsCons_e, ↓subG_e, ↓dC_e, ↓dOp_e, ↓dUn_e, ↓dChain_e, ↓bOf_e, ↓bAnd_e, ↓bOr_e, ↓bNot_e, ↓bYes_e, ↓dAnd_e, ↓dOr_e, ↓dNot_e, ↓dIf_e, ↓lNil_e, ↓lCons_e, ↓dLst_e, ↓dDic0_e, ↓dDic1_e, ↓dLenSetG_e, dIsB_b, dIsNB_b, dSD_e, ↓dLstO_e, ↓dTup_e, ↓dCB_e, ↓dCall_e, ↓dCallK_e, ↓oNone_e, ↓oSome_e, ↓dSl_e, ↓dBM_e, ↓dBM0_e, ↓dFz_e, ↓dFz2_e, ↓d2_e, ↓dLone_e, ↓lStar_e, ↓dCallA_e, ↓dMakeA_e, ↓dMakeV_e, ↓dMethA_e, ↓dCMethA_e, ↓dPropA_e, ↓dFld_e, ↓sFldS_e, ↓dFzI_e, ↓fzID_o, ↓dM1_e, ↓dM0_e, ↓dRev_e, ↓mSplit_s, ↓mUpper_s, ↓exStr, ↓exZ, ↓cStrI_i, ↓cIntS_s, ↓iStrD_e, ↓dEqF_s, ↓dNeF_s, ↓dEqF_i, ↓dNeF_i, ↓dSign_s, ↓sRaiseI_e, ↓dXFld_e, ↓mPop_e, ↓dAddO_l, ↓dAddO_o, ↓dMk0_e, ↓sKeep_e, ↓sTryH_e, ↓dCVal_e, ↓dConI_e, ↓cLen_s, ↓dIx_s, ↓dSlS_s, ↓dAdd_s, ↓cTup_l, ↓pkP_e, ↓pkS_e, ↓lstG_e, ↓asI_i, ↓iSeq_e, ↓iTupD_e, ↓iRg1_e, ↓iRg2_e, ↓iZipD_e, iZrD_e, ↓iEnumD_e, ↓sFor_e, ↓dLc_e, ↓finF_e, ↓finO_e, ↓fzD_l, ↓fzD_i, ↓fzD_o, ↓fzD2_o, ↓dSetO_e, ↓mAppend_e, ↓mClear_e, ↓mReverse_e, List.map_cons, List.map_nil, List.length_cons, List.length_nil, rep_0, rep_s, List.cons_append, List.nil_append, List.getElem?_cons_zero, List.getElem?_cons_succ, List.set_cons_zero, List.set_cons_succ, Nat.reduceAdd, Nat.reduceSub, Nat.zero_add, Nat.add_zero, ↓exSS, ↓exB, ↓exI, ↓ex1, ↓ex2, ↓ex3, ↓exI1, ↓exI2, ↓exT, ↓exC, ↓exAs, ↓dAdd_i, ↓dAddI_i, ↓dSubI_i, ↓dLRg_e, ↓dIsiT_e, ↓dLenSet_e, ↓bChain3_e, ↓dLRg2_e, ↓iRg3_e, ↓dLc2_e, ↓dSlT_t, dAddT_t, ↓dNewK_e, ↓dDis1_e, ↓sDkp_e, ↓dDGet_e, ↓dDGet2_e, ↓dLVals_e, ↓kD_ex_i, ↓dSS_e, ↓dST_e, ↓dSI_e, ↓lsG_e, ↓dMulI_i, ↓dNew_e, ↓sDct_e, ↓dMulO_l, ↓dLRgO_e, ↓dAdd_l, ↓dSub_i, ↓dMul_i, ↓dMul_l, ↓dMod_i, ↓dDiv_i, ↓dPow_i, ↓dLt_i, ↓dLe_i, ↓dGt_i, ↓dGe_i, ↓uNeg_i, ↓cMax2_i, ↓cMin2_i, ↓cAbs_i, ↓cInt_i, ↓cInt_b, ↓cLen_l, ↓cLen_q, ↓cLen_t, ↓cList_l, ↓cList_q, ↓cList_t, ↓cListO_l, ↓cListO_t, ↓dIx_l, ↓dIx_q, ↓dIx_t, ↓dIx_o', ↓exS, ↓exL, at_1, at_2, at_3, at_4, ix30, ix31, ix32, ↓dSlL_l, ↓dSlL_q, ↓asQ_l, ↓asL_l, at_0, ↓isi_non_int, ↓isi_non_bool, ↓isi_non_str, ↓isi_non_list, ↓isi_non_tuple, ↓isi_non_dict, ↓isi_bl_int, ↓isi_bl_bool, ↓isi_bl_str, ↓isi_bl_list, ↓isi_bl_tuple, ↓isi_bl_dict, ↓isi_int_int, ↓isi_int_bool, ↓isi_int_str, ↓isi_int_list, ↓isi_int_tuple, ↓isi_int_dict, ↓isi_str_int, ↓isi_str_bool, ↓isi_str_str, ↓isi_str_list, ↓isi_str_tuple, ↓isi_str_dict, ↓isi_lst_int, ↓isi_lst_bool, ↓isi_lst_str, ↓isi_lst_list, ↓isi_lst_tuple, ↓isi_lst_dict, ↓isi_sq_int, ↓isi_sq_bool, ↓isi_sq_str, ↓isi_sq_list, ↓isi_sq_tuple, ↓isi_sq_dict, ↓isi_tup_int, ↓isi_tup_bool, ↓isi_tup_str, ↓isi_tup_list, ↓isi_tup_tuple, ↓isi_tup_dict, ↓isi_dic_int, ↓isi_dic_bool, ↓isi_dic_str, ↓isi_dic_list, ↓isi_dic_tuple, ↓isi_dic_dict, if_true, if_false, Bool.not_true, Bool.not_false, true_and, and_true, reduceCtorEq, Bool.true_eq_false, Bool.false_eq_true, ite_true, ite_false, ↓exAny, ↓isLst_l, Int.toNat_natCast, Int.reduceToNat, dVar_e, sPar_e, sPar3_e, sAug_e])))
local macro_rules | `(tactic| walk_at "dls") => `(tactic| ((try simp only [gstart, gwipe, List.set_set, List.map_cons, List.map_nil, List.length_cons, List.length_nil, rep_0, rep_s, List.cons_append, List.nil_append, List.set_cons_zero, List.set_cons_succ, Nat.reduceAdd, Nat.reduceSub, Nat.zero_add, Nat.add_zero]); (try simp only [*, ↓dv0, ↓dv1, ↓dv2, ↓dv3, ↓dv4, ↓dv5, ↓dv6, ↓dv7, ↓dv8, ↓dv9, ↓dv10, ↓dv11, ↓dv12, ↓dv13, ↓dv14, ↓dv15, ↓dv16, ↓dv17, ↓dv18, ↓dv19, ↓dv20, ↓dv21, ↓dv22, ↓dv23, ↓dv24, ↓dv25, ↓dv26, ↓dv27, ↓dv28, ↓dv29, ↓dv30, ↓dv31, ↓dv32, ↓dv33, ↓dv34, ↓dv35, ↓dv36, ↓dv37, ↓dv38, ↓dv39, ↓nm0, ↓nm1, ↓nm2, ↓nm3, ↓nm4, ↓nm5, ↓nm6, ↓nm7, ↓nm8, ↓nm9, ↓nm10, ↓nm11, ↓nm12, ↓nm13, ↓nm14, ↓nm15, ↓nm16, ↓nm17, ↓nm18, ↓nm19, ↓nm20, ↓nm21, ↓nm22, ↓nm23, ↓nm24, ↓nm25, ↓nm26, ↓nm27, ↓nm28, ↓nm29, ↓nm30, ↓nm31, ↓nm32, ↓nm33, ↓nm34, ↓nm35, ↓nm36, ↓nm37, ↓nm38, ↓nm39, ↓sPar_n, ↓sPar3_n, ↓sAug_n, ↓reduceIte, List.set_set, ↓sNext_e, ↓sSeq_e, ↓sBrk_e, ↓sCnt_e, ↓sDrop_e, ↓sRet_e, ↓sRetN_e, ↓sIf_e, ↓sAsg_e, ↓sRaise_e, ↓nmG_e, ↓tupG_e, ↓gsNil_e, ↓gsCons_e, ↓subG_e, ↓dC_e, ↓dOp_e, ↓dUn_e, ↓dChain_e, ↓bOf_e, ↓bAnd_e, ↓bOr_e, ↓bNot_e, ↓bYes_e, ↓dAnd_e, ↓dOr_e, ↓dNot_e, ↓dIf_e, ↓lNil_e, ↓lCons_e, ↓dLst_e, ↓dDic0_e, ↓dDic1_e, ↓dLenSetG_e, dIsB_b, dIsNB_b, dSD_e, ↓dLstO_e, ↓dTup_e, ↓dCB_e, ↓dCall_e, ↓dCallK_e, ↓oNone_e, ↓oSome_e, ↓dSl_e, ↓dBM_e, ↓dBM0_e, ↓dFz_e, ↓dFz2_e, ↓d2_e, ↓dLone_e, ↓lStar_e, ↓dCallA_e, ↓dMakeA_e, ↓dMakeV_e, ↓dMethA_e, ↓dCMethA_e, ↓dPropA_e, ↓dFld_e, ↓sFldS_e, ↓dFzI_e, ↓fzID_o, ↓dM1_e, ↓dM0_e, ↓dRev_e, ↓mSplit_s, ↓mUpper_s, ↓exStr, ↓exZ, ↓cStrI_i, ↓cIntS_s, ↓iStrD_e, ↓dEqF_s, ↓dNeF_s, ↓dEqF_i, ↓dNeF_i, ↓dSign_s, ↓sRaiseI_e, ↓dXFld_e, ↓mPop_e, ↓dAddO_l, ↓dAddO_o, ↓dMk0_e, ↓sKeep_e, ↓sTryH_e, ↓dCVal_e, ↓dConI_e, ↓cLen_s, ↓dIx_s, ↓dSlS_s, ↓dAdd_s, ↓cTup_l, ↓pkP_e, ↓pkS_e, ↓lstG_e, ↓asI_i, ↓iSeq_e, ↓iTupD_e, ↓iRg1_e, ↓iRg2_e, ↓iZipD_e, iZrD_e, ↓iEnumD_e, ↓sFor_e, ↓dLc_e, ↓finF_e, ↓finO_e, ↓fzD_l, ↓fzD_i, ↓fzD_o, ↓fzD2_o, ↓dSetO_e, ↓mAppend_e, ↓mClear_e, ↓mReverse_e, List.map_cons, List.map_nil, List.length_cons, List.length_nil, rep_0, rep_s, List.cons_append, List.nil_append, List.getElem?_cons_zero, List.getElem?_cons_succ, List.set_cons_zero, List.set_cons_succ, Nat.reduceAdd, Nat.reduceSub, Nat.zero_add, Nat.add_zero, ↓exSS, ↓exB, ↓exI, ↓ex1, ↓ex2, ↓ex3, ↓exI1, ↓exI2, ↓exT, ↓exC, ↓exAs, ↓dAdd_i, ↓dAddI_i, ↓dSubI_i, ↓dLRg_e, ↓dIsiT_e, ↓dLenSet_e, ↓bChain3_e, ↓dLRg2_e, ↓iRg3_e, ↓dLc2_e, ↓dSlT_t, dAddT_t, ↓dNewK_e, ↓dDis1_e, ↓sDkp_e, ↓dDGet_e, ↓dDGet2_e, ↓dLVals_e, ↓kD_ex_i, ↓dSS_e, ↓dST_e, ↓dSI_e, ↓lsG_e, ↓dMulI_i, ↓dNew_e, ↓sDct_e, ↓dMulO_l, ↓dLRgO_e, ↓dAdd_l, ↓dSub_i, ↓dMul_i, ↓dMul_l, ↓dMod_i, ↓dDiv_i, ↓dPow_i, ↓dLt_i, ↓dLe_i, ↓dGt_i, ↓dGe_i, ↓uNeg_i, ↓cMax2_i, ↓cMin2_i, ↓cAbs_i, ↓cInt_i, ↓cInt_b, ↓cLen_l, ↓cLen_q, ↓cLen_t, ↓cList_l, ↓cList_q, ↓cList_t, ↓cListO_l, ↓cListO_t, ↓dIx_l, ↓dIx_q, ↓dIx_t, ↓dIx_o', ↓exS, ↓exL, at_1, at_2, at_3, at_4, ix30, ix31, ix32, ↓dSlL_l, ↓dSlL_q, ↓asQ_l, ↓asL_l, at_0, ↓isi_non_int, ↓isi_non_bool, ↓isi_non_str, ↓isi_non_list, ↓isi_non_tuple, ↓isi_non_dict, ↓isi_bl_int, ↓isi_bl_bool, ↓isi_bl_str, ↓isi_bl_list, ↓isi_bl_tuple, ↓isi_bl_dict, ↓isi_int_int, ↓isi_int_bool, ↓isi_int_str, ↓isi_int_list, ↓isi_int_tuple, ↓isi_int_dict, ↓isi_str_int, ↓isi_str_bool, ↓isi_str_str, ↓isi_str_list, ↓isi_str_tuple, ↓isi_str_dict, ↓isi_lst_int, ↓isi_lst_bool, ↓isi_lst_str, ↓isi_lst_list, ↓isi_lst_tuple, ↓isi_lst_dict, ↓isi_sq_int, ↓isi_sq_bool, ↓isi_sq_str, ↓isi_sq_list, ↓isi_sq_tuple, ↓isi_sq_dict, ↓isi_tup_int, ↓isi_tup_bool, ↓isi_tup_str, ↓isi_tup_list, ↓isi_tup_tuple, ↓isi_tup_dict, ↓isi_dic_int, ↓isi_dic_bool, ↓isi_dic_str, ↓isi_dic_list, ↓isi_dic_tuple, ↓isi_dic_dict, if_true, if_false, Bool.not_true, Bool.not_false, true_and, and_true, reduceCtorEq, Bool.true_eq_false, Bool.false_eq_true, ite_true, ite_false, ↓exAny, ↓isLst_l, Int.toNat_natCast, Int.reduceToNat, dVar_e, sPar_e, sPar3_e, sAug_e])))
--MK
theorem lc_filt {α : Type} {G : TGd} {C : TB} {Te : TD} {vs : List Nat} {Fin : List D → Sto → KD → Prop} {Γ : Gam} {S : Sto} {Φ : KD} (xs : List α) (f : α → D) (p : α → Bool) (hl : xs.length ≤ sizeLine) (hs : ∀ x ∈ xs, ∀ (A : KD) (N : Sto → Prop), (p x = true → A S (f x)) → (p x = false → N S) → G (f x) (gwipe Γ vs) S fun Γ2 S2 => C Γ2 S2 (fun S3 k => if k = true then Te Γ2 S3 A (fun _ _ => False) else N S3) (fun _ _ => False)) (hd : Fin ((xs.filter p).map f) S Φ) : lcP (fun _ => some (xs.map f)) G C Te vs Fin Γ S Φ := by
  refine lc_l (fun i acc S' => S' = S ∧ acc = ((xs.take i).filter p).map f) (by rw [List.length_map]; exact hl) ⟨rfl, rfl⟩ (fun i acc S' hi hp => ?_) fun acc S' hp => ?_
  · obtain ⟨rfl, rfl⟩ := hp
    rw [List.length_map] at hi
    rw [List.getElem_map]
    have e : xs.take (i + 1) = xs.take i ++ [xs[i]] := by rw [List.take_add_one, List.getElem?_eq_getElem hi]; rfl
    refine hs _ (List.getElem_mem hi) _ _ (fun hp => ⟨rfl, ?_⟩) fun hp => ⟨rfl, ?_⟩
    · rw [e, List.filter_append, List.map_append, List.filter_cons_of_pos hp]
      rfl
    · rw [e, List.filter_append, List.filter_cons_of_neg (by rw [hp]; exact Bool.false_ne_true)]
      simp
  · obtain ⟨rfl, rfl⟩ := hp
    rw [List.length_map, List.take_length]
    exact hd
def entD (ks : List (Int × Int)) : List (Key × D) := ks.map fun p => (.inl p.1, .int p.2)
theorem pKD_new {acc : List (Key × D)} {k : Key} {z : D} (h : ∀ q ∈ acc, q.1 ≠ k) : pKD acc k z = acc ++ [(k, z)] := by
  unfold pKD
  rw [if_neg]
  intro c
  obtain ⟨q, hq, e⟩ := List.any_eq_true.mp c
  exact h q hq (of_decide_eq_true e)
theorem ent_len (ks : List (Int × Int)) : (entD ks).length = ks.length := by unfold entD; rw [List.length_map]
theorem ent_new {ks : List (Int × Int)} {k : Int} (h : ∀ p ∈ ks, p.1 ≠ k) {z : Int} : pKD (entD ks) (.inl k) (.int z) = entD (ks ++ [(k, z)]) := by
  rw [pKD_new]
  · unfold entD; rw [List.map_append]; rfl
  · intro q hq
    obtain ⟨p, hp, rfl⟩ := List.mem_map.mp hq
    intro e
    exact h p hp (Sum.inl.inj e)
theorem insU_mem {x k : Int} : ∀ {ys : List Int}, k ∈ insU x ys ↔ k = x ∨ k ∈ ys
  | [] => by simp [insU]
  | y :: ys => by
    unfold insU
    split
    · simp
    · split
      · rename_i h1 h2
        subst h2
        simp
      · rw [List.mem_cons, insU_mem, List.mem_cons]
        constructor
        · rintro (h | h | h)
          · exact .inr (.inl h)
          · exact .inl h
          · exact .inr (.inr h)
        · rintro (h | h | h)
          · exact .inr (.inl h)
          · exact .inl h
          · exact .inr (.inr h)
theorem insU_rise {x : Int} : ∀ {ys : List Int}, ys.Pairwise (· < ·) → (insU x ys).Pairwise (· < ·)
  | [], _ => by simp [insU]
  | y :: ys, h => by
    have ⟨h1, h2⟩ := List.pairwise_cons.mp h
    unfold insU
    split
    · rename_i c
      exact List.pairwise_cons.mpr ⟨fun k hk => by
        rcases List.mem_cons.mp hk with rfl | hk
        · exact c
        · have := h1 k hk; omega, h⟩
    · split
      · exact h
      · rename_i c1 c2
        refine List.pairwise_cons.mpr ⟨fun k hk => ?_, insU_rise h2⟩
        rcases insU_mem.mp hk with rfl | hk
        · omega
        · exact h1 k hk
theorem riseF_mem {k : Int} : ∀ {xs : List Int}, k ∈ riseF xs ↔ k ∈ xs
  | [] => Iff.rfl
  | x :: xs => by
    show k ∈ insU x (riseF xs) ↔ _
    rw [insU_mem, riseF_mem, List.mem_cons]
theorem riseF_rise : ∀ (xs : List Int), (riseF xs).Pairwise (· < ·)
  | [] => .nil
  | x :: xs => insU_rise (riseF_rise xs)
theorem rise_eq : ∀ {as bs : List Int}, as.Pairwise (· < ·) → bs.Pairwise (· < ·) → (∀ k, k ∈ as ↔ k ∈ bs) → as = bs
  | [], [], _, _, _ => rfl
  | [], b :: bs, _, _, h => absurd ((h b).mpr List.mem_cons_self) (by simp)
  | a :: as, [], _, _, h => absurd ((h a).mp List.mem_cons_self) (by simp)
  | a :: as, b :: bs, ha, hb, h => by
    have ⟨a1, a2⟩ := List.pairwise_cons.mp ha
    have ⟨b1, b2⟩ := List.pairwise_cons.mp hb
    have e : a = b := by
      rcases List.mem_cons.mp ((h a).mp List.mem_cons_self) with e | e
      · exact e
      · rcases List.mem_cons.mp ((h b).mpr List.mem_cons_self) with e2 | e2
        · exact e2.symm
        · have := a1 b e2; have := b1 a e; omega
    subst e
    congr 1
    refine rise_eq a2 b2 fun k => ⟨fun hk => ?_, fun hk => ?_⟩
    · rcases List.mem_cons.mp ((h k).mp (List.mem_cons_of_mem _ hk)) with e | e
      · have := a1 k hk; omega
      · exact e
    · rcases List.mem_cons.mp ((h k).mpr (List.mem_cons_of_mem _ hk)) with e | e
      · have := b1 k hk; omega
      · exact e
theorem rise_of {qs xs : List Int} (h1 : qs.Pairwise (· < ·)) (h : ∀ k, k ∈ qs ↔ k ∈ xs) : qs = riseF xs := rise_eq h1 (riseF_rise xs) fun k => (h k).trans riseF_mem.symm
theorem lt_of_le_nd : ∀ {qs : List Int}, qs.Pairwise (· ≤ ·) → qs.Nodup → qs.Pairwise (· < ·)
  | [], _, _ => .nil
  | a :: as, h, n => by
    have ⟨h1, h2⟩ := List.pairwise_cons.mp h
    have ⟨n1, n2⟩ := List.nodup_cons.mp n
    refine List.pairwise_cons.mpr ⟨fun k hk => ?_, lt_of_le_nd h2 n2⟩
    have := h1 k hk
    have : a ≠ k := fun e => n1 (e ▸ hk)
    omega
theorem rise_len (xs : List Int) : (riseF xs).length ≤ xs.length :=
  nodup_few _ _ ((riseF_rise xs).imp fun h => by omega) fun k hk => riseF_mem.mp hk
/-- what a dict of ints by ints holds -/
structure EntOk (kv : List (Int × Int)) (f : Int → Int) (seen : List Int) : Prop where
  nd : (kv.map (·.1)).Nodup
  mem : ∀ k, k ∈ kv.map (·.1) ↔ k ∈ seen
  val : ∀ p ∈ kv, p.2 = f p.1
theorem EntOk.nil (f : Int → Int) : EntOk [] f [] := ⟨.nil, fun _ => Iff.rfl, fun _ h => nomatch h⟩
theorem EntOk.len {kv : List (Int × Int)} {f : Int → Int} {seen : List Int} (h : EntOk kv f seen) : kv.length ≤ seen.length := by
  have := nodup_few _ _ h.nd fun k hk => (h.mem k).mp hk
  rwa [List.length_map] at this
theorem EntOk.fst {kv : List (Int × Int)} : (entD kv).map (·.1) = (kv.map (·.1)).map Sum.inl := by
  unfold entD
  rw [List.map_map, List.map_map]
  rfl
theorem EntOk.find {kv : List (Int × Int)} {f : Int → Int} {seen : List Int} (h : EntOk kv f seen) (k : Int) : atD (entD kv) (.inl k) = if k ∈ seen then some (.int (f k)) else none := by
  have e : ∀ (xs : List (Int × Int)), (∀ p ∈ xs, p.2 = f p.1) → atD (entD xs) (.inl k) = if k ∈ xs.map (·.1) then some (.int (f k)) else none := by
    intro xs
    induction xs with
    | nil => intro _; rfl
    | cons p xs ih =>
      intro hv
      have ih := ih fun q hq => hv q (List.mem_cons_of_mem _ hq)
      unfold atD entD at ih ⊢
      rw [List.map_cons, List.find?_cons]
      by_cases c : p.1 = k
      · have : decide ((Sum.inl p.1 : Key) = Sum.inl k) = true := by rw [c]; simp
        rw [this, if_pos (by rw [← c]; simp)]
        show some (D.int p.2) = _
        rw [hv p List.mem_cons_self, c]
      · have : decide ((Sum.inl p.1 : Key) = Sum.inl k) = false := by
          rw [decide_eq_false_iff_not]
          exact fun e => c (Sum.inl.inj e)
        rw [this]
        dsimp only
        rw [ih]
        rw [List.map_cons]
        by_cases c2 : k ∈ xs.map (·.1)
        · rw [if_pos c2, if_pos (List.mem_cons_of_mem _ c2)]
        · rw [if_neg c2, if_neg fun z => by
            rcases List.mem_cons.mp z with z | z
            · exact c z.symm
            · exact c2 z]
  rw [e kv h.val]
  by_cases c : k ∈ seen
  · rw [if_pos c, if_pos ((h.mem k).mpr c)]
  · rw [if_neg c, if_neg fun z => c ((h.mem k).mp z)]
theorem EntOk.put {kv : List (Int × Int)} {f : Int → Int} {seen : List Int} (h : EntOk kv f seen) (k v : Int) : ∃ kv', pKD (entD kv) (.inl k) (.int v) = entD kv' ∧ EntOk kv' (fun x => if x = k then v else f x) (seen ++ [k]) := by
  by_cases c : k ∈ kv.map (·.1)
  · refine ⟨kv.map fun p => if p.1 = k then (p.1, v) else p, ?_, ?_, ?_, ?_⟩
    · unfold pKD
      rw [if_pos]
      · unfold entD
        rw [List.map_map, List.map_map]
        apply List.map_congr_left
        intro p _
        show (if (Sum.inl p.1 : Key) = Sum.inl k then _ else _) = _
        by_cases e : p.1 = k
        · simp [e]
        · rw [if_neg fun z => e (Sum.inl.inj z)]
          simp [e]
      · obtain ⟨p, hp, e⟩ := List.mem_map.mp c
        exact List.any_eq_true.mpr ⟨_, List.mem_map.mpr ⟨p, hp, rfl⟩, by rw [e]; simp⟩
    · have e : (kv.map fun p => if p.1 = k then (p.1, v) else p).map (·.1) = kv.map (·.1) := by
        rw [List.map_map]
        apply List.map_congr_left
        intro p _
        show (if p.1 = k then (p.1, v) else p).1 = p.1
        split <;> rfl
      rw [e]; exact h.nd
    · intro x
      have e : (kv.map fun p => if p.1 = k then (p.1, v) else p).map (·.1) = kv.map (·.1) := by
        rw [List.map_map]
        apply List.map_congr_left
        intro p _
        show (if p.1 = k then (p.1, v) else p).1 = p.1
        split <;> rfl
      rw [e, h.mem, List.mem_append, List.mem_singleton]
      constructor
      · exact .inl
      · rintro (z | rfl)
        · exact z
        · exact (h.mem _).mp c
    · intro p hp
      obtain ⟨q, hq, rfl⟩ := List.mem_map.mp hp
      by_cases e : q.1 = k
      · rw [if_pos e]; dsimp only; rw [if_pos e]
      · rw [if_neg e, if_neg e]; exact h.val q hq
  · refine ⟨kv ++ [(k, v)], ent_new (fun p hp e => c (List.mem_map.mpr ⟨p, hp, e⟩)), ?_, ?_, ?_⟩
    · rw [List.map_append, List.nodup_append]
      exact ⟨h.nd, by simp, fun a ha b hb => by rw [List.mem_singleton.mp hb]; exact fun (e : a = k) => c (by rw [← e]; exact ha)⟩
    · intro x
      rw [List.map_append, List.mem_append, List.mem_append, h.mem]
      rfl
    · intro p hp
      rcases List.mem_append.mp hp with hp | hp
      · have : p.1 ≠ k := fun e => c (List.mem_map.mpr ⟨p, hp, e⟩)
        rw [if_neg this]; exact h.val p hp
      · rw [List.mem_singleton.mp hp, if_pos rfl]
theorem EntOk.congr {kv : List (Int × Int)} {f g : Int → Int} {seen sn : List Int} (h : EntOk kv f seen) (e : ∀ k ∈ seen, f k = g k) (e2 : ∀ k, k ∈ seen ↔ k ∈ sn) : EntOk kv g sn :=
  ⟨h.nd, fun k => (h.mem k).trans (e2 k), fun p hp => (h.val p hp).trans (e _ ((h.mem _).mp (List.mem_map.mpr ⟨p, hp, rfl⟩)))⟩
theorem rise_keys {kv : List (Int × Int)} {f : Int → Int} {seen qs : List Int} (h : EntOk kv f seen) (hp : qs.Perm (kv.map (·.1))) (ho : qs.Pairwise (· ≤ ·)) : qs = riseF seen :=
  rise_of (lt_of_le_nd ho (hp.nodup_iff.mpr h.nd)) fun k => hp.mem_iff.trans (h.mem k)
theorem fall_keys {kv : List (Int × Int)} {f : Int → Int} {seen qs : List Int} (h : EntOk kv f seen) (hp : qs.Perm (kv.map (·.1))) (ho : qs.Pairwise (· ≥ ·)) : qs = (riseF seen).reverse := by
  have h2 : qs.reverse.Pairwise (· ≤ ·) := List.pairwise_reverse.mpr (ho.imp fun h => h)
  have := rise_keys h ((List.reverse_perm qs).trans hp) h2
  rw [← this, List.reverse_reverse]
end DL
namespace DL
open PySem PySem.Spec PyProof.Rows L2
local macro_rules | `(tactic| walk_at "dl") => `(tactic| ((try simp only [gstart, gwipe, List.set_set, List.map_cons, List.map_nil, List.length_cons, List.length_nil, rep_0, rep_s, List.cons_append, List.nil_append, List.set_cons_zero, List.set_cons_succ, Nat.reduceAdd, Nat.reduceSub, Nat.zero_add, Nat.add_zero]); (try simp only [↓dv0, ↓dv1, ↓dv2, ↓dv3, ↓dv4, ↓dv5, ↓dv6, ↓dv7, ↓dv8, ↓dv9, ↓dv10, ↓dv11, ↓dv12, ↓dv13, ↓dv14, ↓dv15, ↓dv16, ↓dv17, ↓dv18, ↓dv19, ↓dv20, ↓dv21, ↓dv22, ↓dv23, ↓dv24, ↓dv25, ↓dv26, ↓dv27, ↓dv28, ↓dv29, ↓dv30, ↓dv31, ↓dv32, ↓dv33, ↓dv34, ↓dv35, ↓dv36, ↓dv37, ↓dv38, ↓dv39, ↓nm0, ↓nm1, ↓nm2, ↓nm3, ↓nm4, ↓nm5, ↓nm6, ↓nm7, ↓nm8, ↓nm9, ↓nm10, ↓nm11, ↓nm12, ↓nm13, ↓nm14, ↓nm15, ↓nm16, ↓nm17, ↓nm18, ↓nm19, ↓nm20, ↓nm21, ↓nm22, ↓nm23, ↓nm24, ↓nm25, ↓nm26, ↓nm27, ↓nm28, ↓nm29, ↓nm30, ↓nm31, ↓nm32, ↓nm33, ↓nm34, ↓nm35, ↓nm36, ↓nm37, ↓nm38, ↓nm39, ↓sPar_n, ↓sPar3_n, ↓sAug_n, ↓reduceIte, List.set_set, ↓sNext_e, ↓sSeq_e, ↓sBrk_e, ↓sCnt_e, ↓sDrop_e, ↓sRet_e, ↓sRetN_e, ↓sIf_e, ↓sAsg_e, ↓sRaise_e, ↓nmG_e, ↓tupG_e, ↓gsNil_e, ↓gsCons_e, ↓subG_e, ↓dC_e, ↓dOp_e, ↓dUn_e, ↓dChain_e, ↓bOf_e, ↓bAnd_e, ↓bOr_e, ↓bNot_e, ↓bYes_e, ↓dAnd_e, ↓dOr_e, ↓dNot_e, ↓dIf_e, ↓lNil_e, ↓lCons_e, ↓dLst_e, ↓dDic0_e, ↓dDic1_e, ↓dLenSetG_e, dIsB_b, dIsNB_b, dSD_e, ↓dLstO_e, ↓dTup_e, ↓dCB_e, ↓dCall_e, ↓dCallK_e, ↓oNone_e, ↓oSome_e, ↓dSl_e, ↓dBM_e, ↓dBM0_e, ↓dFz_e, ↓dFz2_e, ↓d2_e, ↓dLone_e, ↓lStar_e, ↓dCallA_e, ↓dMakeA_e, ↓dMakeV_e, ↓dMethA_e, ↓dCMethA_e, ↓dPropA_e, ↓dFld_e, ↓sFldS_e, ↓dFzI_e, ↓fzID_o, ↓dM1_e, ↓dM0_e, ↓dRev_e, ↓mSplit_s, ↓mUpper_s, ↓exStr, ↓exZ, ↓cStrI_i, ↓cIntS_s, ↓iStrD_e, ↓dEqF_s, ↓dNeF_s, ↓dEqF_i, ↓dNeF_i, ↓dSign_s, ↓sRaiseI_e, ↓dXFld_e, ↓mPop_e, ↓dAddO_l, ↓dAddO_o, ↓dMk0_e, ↓sKeep_e, ↓sTryH_e, ↓dCVal_e, ↓dConI_e, ↓cLen_s, ↓dIx_s, ↓dSlS_s, ↓dAdd_s, ↓cTup_l, ↓pkP_e, ↓pkS_e, ↓lstG_e, ↓asI_i, ↓iSeq_e, ↓iTupD_e, ↓iRg1_e, ↓iRg2_e, ↓iZipD_e, iZrD_e, ↓iEnumD_e, ↓sFor_e, ↓dLc_e, ↓finF_e, ↓finO_e, ↓fzD_l, ↓fzD_i, ↓fzD_o, ↓fzD2_o, ↓dSetO_e, ↓mAppend_e, ↓mClear_e, ↓mReverse_e, List.map_cons, List.map_nil, List.length_cons, List.length_nil, rep_0, rep_s, List.cons_append, List.nil_append, List.getElem?_cons_zero, List.getElem?_cons_succ, List.set_cons_zero, List.set_cons_succ, Nat.reduceAdd, Nat.reduceSub, Nat.zero_add, Nat.add_zero, ↓exSS, ↓exB, ↓exI, ↓ex1, ↓ex2, ↓ex3, ↓exI1, ↓exI2, ↓exT, ↓exC, ↓exAs, ↓dAdd_i, ↓dAddI_i, ↓dSubI_i, ↓dLRg_e, ↓dIsiT_e, ↓dLenSet_e, ↓bChain3_e, ↓dLRg2_e, ↓iRg3_e, ↓dLc2_e, ↓dSlT_t, dAddT_t, ↓dNewK_e, ↓dDis1_e, ↓sDkp_e, ↓dDGet_e, ↓dDGet2_e, ↓dLVals_e, ↓kD_ex_i, ↓dSS_e, ↓dST_e, ↓dSI_e, ↓lsG_e, ↓dMulI_i, ↓dNew_e, ↓sDct_e, ↓dMulO_l, ↓dLRgO_e, ↓dAdd_l, ↓dSub_i, ↓dMul_i, ↓dMul_l, ↓dMod_i, ↓dDiv_i, ↓dPow_i, ↓dLt_i, ↓dLe_i, ↓dGt_i, ↓dGe_i, ↓uNeg_i, ↓cMax2_i, ↓cMin2_i, ↓cAbs_i, ↓cInt_i, ↓cInt_b, ↓cLen_l, ↓cLen_q, ↓cLen_t, ↓cList_l, ↓cList_q, ↓cList_t, ↓cListO_l, ↓cListO_t, ↓dIx_l, ↓dIx_q, ↓dIx_t, ↓dIx_o', ↓exS, ↓exL, at_1, at_2, at_3, at_4, ix30, ix31, ix32, ↓dSlL_l, ↓dSlL_q, ↓asQ_l, ↓asL_l, at_0, ↓isi_non_int, ↓isi_non_bool, ↓isi_non_str, ↓isi_non_list, ↓isi_non_tuple, ↓isi_non_dict, ↓isi_bl_int, ↓isi_bl_bool, ↓isi_bl_str, ↓isi_bl_list, ↓isi_bl_tuple, ↓isi_bl_dict, ↓isi_int_int, ↓isi_int_bool, ↓isi_int_str, ↓isi_int_list, ↓isi_int_tuple, ↓isi_int_dict, ↓isi_str_int, ↓isi_str_bool, ↓isi_str_str, ↓isi_str_list, ↓isi_str_tuple, ↓isi_str_dict, ↓isi_lst_int, ↓isi_lst_bool, ↓isi_lst_str, ↓isi_lst_list, ↓isi_lst_tuple, ↓isi_lst_dict, ↓isi_sq_int, ↓isi_sq_bool, ↓isi_sq_str, ↓isi_sq_list, ↓isi_sq_tuple, ↓isi_sq_dict, ↓isi_tup_int, ↓isi_tup_bool, ↓isi_tup_str, ↓isi_tup_list, ↓isi_tup_tuple, ↓isi_tup_dict, ↓isi_dic_int, ↓isi_dic_bool, ↓isi_dic_str, ↓isi_dic_list, ↓isi_dic_tuple, ↓isi_dic_dict, if_true, if_false, Bool.not_true, Bool.not_false, true_and, and_true, reduceCtorEq, Bool.true_eq_false, Bool.false_eq_true, ite_true, ite_false, ↓exAny, ↓isLst_l, Int.toNat_natCast, Int.reduceToNat, dVar_e, sPar_e, sPar3_e, sAug_e])))
local macro_rules | `(tactic| walk_at "dls") => `(tactic| ((try simp only [gstart, gwipe, List.set_set, List.map_cons, List.map_nil, List.length_cons, List.length_nil, rep_0, rep_s, List.cons_append, List.nil_append, List.set_cons_zero, List.set_cons_succ, Nat.reduceAdd, Nat.reduceSub, Nat.zero_add, Nat.add_zero]); (try simp only [*, ↓dv0, ↓dv1, ↓dv2, ↓dv3, ↓dv4, ↓dv5, ↓dv6, ↓dv7, ↓dv8, ↓dv9, ↓dv10, ↓dv11, ↓dv12, ↓dv13, ↓dv14, ↓dv15, ↓dv16, ↓dv17, ↓dv18, ↓dv19, ↓dv20, ↓dv21, ↓dv22, ↓dv23, ↓dv24, ↓dv25, ↓dv26, ↓dv27, ↓dv28, ↓dv29, ↓dv30, ↓dv31, ↓dv32, ↓dv33, ↓dv34, ↓dv35, ↓dv36, ↓dv37, ↓dv38, ↓dv39, ↓nm0, ↓nm1, ↓nm2, ↓nm3, ↓nm4, ↓nm5, ↓nm6, ↓nm7, ↓nm8, ↓nm9, ↓nm10, ↓nm11, ↓nm12, ↓nm13, ↓nm14, ↓nm15, ↓nm16, ↓nm17, ↓nm18, ↓nm19, ↓nm20, ↓nm21, ↓nm22, ↓nm23, ↓nm24, ↓nm25, ↓nm26, ↓nm27, ↓nm28, ↓nm29, ↓nm30, ↓nm31, ↓nm32, ↓nm33, ↓nm34, ↓nm35, ↓nm36, ↓nm37, ↓nm38, ↓nm39, ↓sPar_n, ↓sPar3_n, ↓sAug_n, ↓reduceIte, List.set_set, ↓sNext_e, ↓sSeq_e, ↓sBrk_e, ↓sCnt_e, ↓sDrop_e, ↓sRet_e, ↓sRetN_e, ↓sIf_e, ↓sAsg_e, ↓sRaise_e, ↓nmG_e, ↓tupG_e, ↓gsNil_e, ↓gsCons_e, ↓subG_e, ↓dC_e, ↓dOp_e, ↓dUn_e, ↓dChain_e, ↓bOf_e, ↓bAnd_e, ↓bOr_e, ↓bNot_e, ↓bYes_e, ↓dAnd_e, ↓dOr_e, ↓dNot_e, ↓dIf_e, ↓lNil_e, ↓lCons_e, ↓dLst_e, ↓dDic0_e, ↓dDic1_e, ↓dLenSetG_e, dIsB_b, dIsNB_b, dSD_e, ↓dLstO_e, ↓dTup_e, ↓dCB_e, ↓dCall_e, ↓dCallK_e, ↓oNone_e, ↓oSome_e, ↓dSl_e, ↓dBM_e, ↓dBM0_e, ↓dFz_e, ↓dFz2_e, ↓d2_e, ↓dLone_e, ↓lStar_e, ↓dCallA_e, ↓dMakeA_e, ↓dMakeV_e, ↓dMethA_e, ↓dCMethA_e, ↓dPropA_e, ↓dFld_e, ↓sFldS_e, ↓dFzI_e, ↓fzID_o, ↓dM1_e, ↓dM0_e, ↓dRev_e, ↓mSplit_s, ↓mUpper_s, ↓exStr, ↓exZ, ↓cStrI_i, ↓cIntS_s, ↓iStrD_e, ↓dEqF_s, ↓dNeF_s, ↓dEqF_i, ↓dNeF_i, ↓dSign_s, ↓sRaiseI_e, ↓dXFld_e, ↓mPop_e, ↓dAddO_l, ↓dAddO_o, ↓dMk0_e, ↓sKeep_e, ↓sTryH_e, ↓dCVal_e, ↓dConI_e, ↓cLen_s, ↓dIx_s, ↓dSlS_s, ↓dAdd_s, ↓cTup_l, ↓pkP_e, ↓pkS_e, ↓lstG_e, ↓asI_i, ↓iSeq_e, ↓iTupD_e, ↓iRg1_e, ↓iRg2_e, ↓iZipD_e, iZrD_e, ↓iEnumD_e, ↓sFor_e, ↓dLc_e, ↓finF_e, ↓finO_e, ↓fzD_l, ↓fzD_i, ↓fzD_o, ↓fzD2_o, ↓dSetO_e, ↓mAppend_e, ↓mClear_e, ↓mReverse_e, List.map_cons, List.map_nil, List.length_cons, List.length_nil, rep_0, rep_s, List.cons_append, List.nil_append, List.getElem?_cons_zero, List.getElem?_cons_succ, List.set_cons_zero, List.set_cons_succ, Nat.reduceAdd, Nat.reduceSub, Nat.zero_add, Nat.add_zero, ↓exSS, ↓exB, ↓exI, ↓ex1, ↓ex2, ↓ex3, ↓exI1, ↓exI2, ↓exT, ↓exC, ↓exAs, ↓dAdd_i, ↓dAddI_i, ↓dSubI_i, ↓dLRg_e, ↓dIsiT_e, ↓dLenSet_e, ↓bChain3_e, ↓dLRg2_e, ↓iRg3_e, ↓dLc2_e, ↓dSlT_t, dAddT_t, ↓dNewK_e, ↓dDis1_e, ↓sDkp_e, ↓dDGet_e, ↓dDGet2_e, ↓dLVals_e, ↓kD_ex_i, ↓dSS_e, ↓dST_e, ↓dSI_e, ↓lsG_e, ↓dMulI_i, ↓dNew_e, ↓sDct_e, ↓dMulO_l, ↓dLRgO_e, ↓dAdd_l, ↓dSub_i, ↓dMul_i, ↓dMul_l, ↓dMod_i, ↓dDiv_i, ↓dPow_i, ↓dLt_i, ↓dLe_i, ↓dGt_i, ↓dGe_i, ↓uNeg_i, ↓cMax2_i, ↓cMin2_i, ↓cAbs_i, ↓cInt_i, ↓cInt_b, ↓cLen_l, ↓cLen_q, ↓cLen_t, ↓cList_l, ↓cList_q, ↓cList_t, ↓cListO_l, ↓cListO_t, ↓dIx_l, ↓dIx_q, ↓dIx_t, ↓dIx_o', ↓exS, ↓exL, at_1, at_2, at_3, at_4, ix30, ix31, ix32, ↓dSlL_l, ↓dSlL_q, ↓asQ_l, ↓asL_l, at_0, ↓isi_non_int, ↓isi_non_bool, ↓isi_non_str, ↓isi_non_list, ↓isi_non_tuple, ↓isi_non_dict, ↓isi_bl_int, ↓isi_bl_bool, ↓isi_bl_str, ↓isi_bl_list, ↓isi_bl_tuple, ↓isi_bl_dict, ↓isi_int_int, ↓isi_int_bool, ↓isi_int_str, ↓isi_int_list, ↓isi_int_tuple, ↓isi_int_dict, ↓isi_str_int, ↓isi_str_bool, ↓isi_str_str, ↓isi_str_list, ↓isi_str_tuple, ↓isi_str_dict, ↓isi_lst_int, ↓isi_lst_bool, ↓isi_lst_str, ↓isi_lst_list, ↓isi_lst_tuple, ↓isi_lst_dict, ↓isi_sq_int, ↓isi_sq_bool, ↓isi_sq_str, ↓isi_sq_list, ↓isi_sq_tuple, ↓isi_sq_dict, ↓isi_tup_int, ↓isi_tup_bool, ↓isi_tup_str, ↓isi_tup_list, ↓isi_tup_tuple, ↓isi_tup_dict, ↓isi_dic_int, ↓isi_dic_bool, ↓isi_dic_str, ↓isi_dic_list, ↓isi_dic_tuple, ↓isi_dic_dict, if_true, if_false, Bool.not_true, Bool.not_false, true_and, and_true, reduceCtorEq, Bool.true_eq_false, Bool.false_eq_true, ite_true, ite_false, ↓exAny, ↓isLst_l, Int.toNat_natCast, Int.reduceToNat, dVar_e, sPar_e, sPar3_e, sAug_e])))
--MK
theorem p_bottom_of : Rets sp_bottom_of T_bottom_of N_bottom_of := by
  rintro _ S Φ Ψ ⟨c, rfl, hl, q⟩
  unfold T_bottom_of curveD
  walk_at "dl"
  unfold stepsD
  refine ⟨⟨_, rfl⟩, lc_map c.2 stepD (fun p => .int p.1) (small (by omega)) (fun p hp R hR => ?_) ?_⟩
  · walk_at "dl"
    exact ⟨_, rfl, rfl, _, _, rfl, _, _, rfl, rfl, hR⟩
  · walk_at "dl"
    refine ⟨c.2.map (·.1), by rw [List.map_map]; rfl, ?_⟩
    walk_at "dl"
    exact ret_now q
def bsM (cells : List Int) : Int → List Int → Int
  | m, [] => m
  | m, w :: ws => bsM cells (m + (cells.filter fun x => x == w).length) ws
/-- each place with the next one -/
def nextL (least : Int) : List Int → List (Int × Int)
  | [] => []
  | w :: ws => (w, ws.headD least) :: nextL least ws
theorem next_len (least : Int) : ∀ ws : List Int, (nextL least ws).length = ws.length
  | [] => rfl
  | _ :: ws => by show _ + 1 = _ + 1; rw [next_len least ws]
theorem zip_next (least : Int) : ∀ ws : List Int, zipD (ws.map D.int) ((ws.drop 1).map D.int ++ [D.int least]) = (nextL least ws).map stepD
  | [] => rfl
  | [_] => rfl
  | w :: v :: vs => by
    have := zip_next least (v :: vs)
    show zipD (D.int w :: (v :: vs).map D.int) (D.int v :: (vs.map D.int ++ [D.int least])) = stepD (w, v) :: (nextL least (v :: vs)).map stepD
    rw [← this]
    rfl
theorem next_get (least : Int) : ∀ (ws : List Int) (i : Nat) (h : i < ws.length), (nextL least ws)[i]? = some (ws[i], (ws.drop (i + 1)).headD least)
  | w :: ws, 0, _ => rfl
  | w :: ws, i + 1, h => next_get least ws i (by simpa using h)
theorem bs_get (cells : List Int) (least : Int) : ∀ (ws : List Int) (m : Int) (i : Nat) (h : i < ws.length), (bsGo cells least m ws)[i]? = some (ws[i] - (ws.drop (i + 1)).headD least, bsM cells m (ws.take (i + 1)))
  | w :: ws, m, 0, _ => rfl
  | w :: ws, m, i + 1, h => bs_get cells least ws _ i (by simpa using h)
theorem bsM_snoc (cells : List Int) (w : Int) : ∀ (ws : List Int) (m : Int), bsM cells m (ws ++ [w]) = bsM cells m ws + (cells.filter fun x => x == w).length
  | [], _ => rfl
  | _ :: ws, _ => bsM_snoc cells w ws _
theorem bs_len (cells : List Int) (least : Int) : ∀ (ws : List Int) (m : Int), (bsGo cells least m ws).length = ws.length
  | [], _ => rfl
  | _ :: ws, _ => by show _ + 1 = _ + 1; rw [bs_len cells least ws]
theorem p_block_steps : Rets sp_block_steps T_block_steps N_block_steps := by
  rintro _ S Φ Ψ ⟨cells, least, rfl, hl, q⟩
  unfold T_block_steps
  walk_at "dl"
  refine ⟨small (Nat.zero_le _), lc_filt cells D.int (fun x => decide (least < x)) (small (by omega)) (fun x hx A N hA hN => ?_) ?_⟩
  · walk_at "dl"
    by_cases c : least < x
    · rw [if_pos (decide_eq_true c)]
      walk_at "dl"
      exact hA (decide_eq_true c)
    · rw [if_neg (by rw [decide_eq_true_eq]; exact c)]
      exact hN (decide_eq_false c)
  · walk_at "dl"
    have fl : (cells.filter fun x => decide (least < x)).length ≤ cells.length := List.length_filter_le _ _
    refine ⟨cells.filter fun x => decide (least < x), _, rfl, by omega, by omega, fun k hk => hk, fun qs hq1 hq2 => ?_⟩
    have eq := rise_of hq2 hq1
    have lq : qs.length ≤ 60 := by
      rw [eq]
      exact Nat.le_trans (rise_len _) (by omega)
    have hB : blockF cells least = bsGo cells least 0 qs.reverse := by unfold blockF; rw [← eq]
    obtain ⟨ws, hws⟩ : ∃ ws, ws = qs.reverse := ⟨_, rfl⟩
    rw [← List.map_reverse, ← hws]
    rw [← hws] at hB
    have lw : ws.length ≤ 60 := by rw [hws, List.length_reverse]; exact lq
    have ec : cutD (ws.map D.int) (some (1 : Int)) none = (ws.drop 1).map D.int := (cut_from (j := 1)).trans (List.map_drop ..).symm
    rw [ec]
    refine ⟨small (by decide), small (by rw [List.length_map, List.length_drop]; omega), ?_⟩
    have src : ((some (ws.map D.int)).bind fun xs => Option.map (fun ys => zipD xs ys) (some ((ws.drop 1).map D.int ++ [D.int least]))) = some ((nextL least ws).map stepD) := by
      show some (zipD _ _) = _
      rw [zip_next]
    simp only [src]
    refine for_l (ds := (nextL least ws).map stepD) (fun i Γ S' => ∃ o5 o6 o7, Γ = [some (.lst (cells.map D.int)), some (.int least), some (.own S.length), some (.int (bsM cells 0 (ws.take i))), some (.lst (ws.map D.int)), o5, o6, o7] ∧ S' = S ++ [.lst (((bsGo cells least 0 ws).take i).map stepD)]) ⟨_, _, _, rfl, rfl⟩ (fun i Γ S' hi hp => ?_) fun Γ S' hp => ?_
    · obtain ⟨o5, o6, o7, rfl, rfl⟩ := hp
      rw [List.length_map, next_len] at hi
      have eg : ((nextL least ws).map stepD)[i]'(by rw [List.length_map, next_len]; exact hi) = stepD (ws[i], (ws.drop (i + 1)).headD least) := by
        have := next_get least ws i hi
        rw [List.getElem?_eq_getElem (by rw [next_len]; exact hi)] at this
        rw [List.getElem_map]
        exact congrArg stepD (Option.some.inj this)
      rw [eg]
      show tupG 2 _ (D.tup [.int ws[i], .int ((ws.drop (i + 1)).headD least)]) _ _ _
      have wt : ws.take (i + 1) = ws.take i ++ [ws[i]] := by rw [List.take_add_one, List.getElem?_eq_getElem hi]; rfl
      have bg := bs_get cells least ws 0 i hi
      have bt : (bsGo cells least 0 ws).take (i + 1) = (bsGo cells least 0 ws).take i ++ [(ws[i] - (ws.drop (i + 1)).headD least, bsM cells 0 (ws.take (i + 1)))] := by rw [List.take_add_one, bg]; rfl
      generalize hnx : (ws.drop (i + 1)).headD least = nx at *
      generalize hw : ws[i] = w at *
      walk_at "dl"
      refine lc_filt cells D.int (fun x => x == w) (small (by omega)) (fun x hx A N hA hN => ?_) ?_
      · walk_at "dl"
        by_cases c : (x == w) = true
        · rw [if_pos c]
          walk_at "dl"
          exact hA c
        · rw [if_neg c]
          exact hN (by simpa using c)
      · walk_at "dl"
        rw [List.length_map]
        have ems : bsM cells 0 (ws.take (i + 1)) = bsM cells 0 (ws.take i) + (cells.filter fun x => x == w).length := by rw [wt, bsM_snoc]
        rw [← ems]
        refine ⟨isLst_at get_at, small (by decide), _, get_at, under (by rw [List.length_map, List.length_take]; have := bs_len cells least ws 0; omega), _, _, _, rfl, ?_⟩
        rw [set_at, bt, List.map_append]
        rfl
    · obtain ⟨o5, o6, o7, rfl, rfl⟩ := hp
      walk_at "dl"
      refine ⟨_, get_at, ?_⟩
      rw [set_at, List.length_map, next_len, List.take_of_length_le (by rw [bs_len]; exact Nat.le_refl _), ← hB]
      exact ret_now (q [.gone])
theorem cnt_snoc (xs : Steps) (c s k : Int) : cntF (xs ++ [(c, s)]) k = if k = s then cntF xs k + c else cntF xs k := by
  unfold cntF
  rw [List.filter_append, List.map_append, List.sum_append]
  by_cases h : k = s
  · rw [if_pos h, List.filter_cons_of_pos (by simp [h])]
    simp
  · rw [if_neg h, List.filter_cons_of_neg (by simp; exact fun e => h e.symm)]
    simp
theorem cnt_not {xs : Steps} {k : Int} (h : k ∉ xs.map (·.2)) : cntF xs k = 0 := by
  unfold cntF
  rw [List.filter_eq_nil_iff.mpr fun p hp => ?_]
  · rfl
  · simp
    exact fun e => h (List.mem_map.mpr ⟨p, hp, e⟩)
theorem p_merged_steps : Rets sp_merged_steps T_merged_steps N_merged_steps := by
  rintro _ S Φ Ψ ⟨a, b, rfl, hl, q⟩
  unfold T_merged_steps stepsD
  walk_at "dl"
  rw [← List.map_append]
  refine ⟨small (by rw [List.length_map, List.length_map]; omega), ?_⟩
  generalize hxs : a ++ b = xs at *
  have lx : xs.length ≤ 100000 := by rw [← hxs, List.length_append]; exact hl
  refine for_l (ds := xs.map stepD) (fun i Γ S' => ∃ o3 o4 kv, Γ = [some (.lst (a.map stepD)), some (.lst (b.map stepD)), some (.own S.length), o3, o4] ∧ S' = S ++ [.dck (entD kv)] ∧ EntOk kv (cntF (xs.take i)) ((xs.take i).map (·.2))) ⟨_, _, [], rfl, rfl, EntOk.nil _⟩ (fun i Γ S' hi hp => ?_) fun Γ S' hp => ?_
  · obtain ⟨o3, o4, kv, rfl, rfl, ok⟩ := hp
    rw [List.length_map] at hi
    rw [List.getElem_map]
    have xt : xs.take (i + 1) = xs.take i ++ [xs[i]] := by rw [List.take_add_one, List.getElem?_eq_getElem hi]; rfl
    generalize xs[i] = p at xt ⊢
    obtain ⟨c, s⟩ := p
    show tupG 2 _ (D.tup [.int c, .int s]) _ _ _
    walk_at "dl"
    have eg : (atD (entD kv) (Sum.inl s)).getD (D.int 0) = .int (cntF (xs.take i) s) := by
      rw [ok.find s]
      by_cases h : s ∈ (xs.take i).map (·.2)
      · rw [if_pos h]; rfl
      · rw [if_neg h, cnt_not h]; rfl
    refine ⟨_, _, rfl, get_at, _, get_at, ?_⟩
    rw [eg]
    walk_at "dl"
    obtain ⟨kv', e', ok'⟩ := ok.put s (cntF (xs.take i) s + c)
    have lk := ok.len
    rw [List.length_map, List.length_take] at lk
    refine ⟨_, _, .inl s, rfl, rfl, get_at, by rw [ent_len]; omega, _, _, kv', rfl, by rw [set_at, e'], ok'.congr (fun k hk => ?_) (fun k => ?_)⟩
    · rw [xt, cnt_snoc]
      by_cases h : k = s
      · rw [if_pos h, if_pos h, h]
      · rw [if_neg h, if_neg h]
    · rw [xt, List.map_append]
      rfl
  · obtain ⟨o3, o4, kv, rfl, rfl, ok⟩ := hp
    rw [List.length_map, List.take_length] at ok
    walk_at "dl"
    refine ⟨_, _, kv.map (·.1), rfl, get_at, EntOk.fst, fun qs hp ho => ?_⟩
    have eq := rise_keys ok hp ho
    have mem : ∀ k ∈ qs, k ∈ xs.map (·.2) := fun k hk => by rw [eq] at hk; exact riseF_mem.mp hk
    refine lc_map qs D.int (fun s => stepD (cntF xs s, s)) (small (by rw [eq]; exact Nat.le_trans (rise_len _) (by rw [List.length_map]; omega))) (fun s hs R hR => ?_) ?_
    · walk_at "dl"
      exact ⟨_, _, .inl s, .int (cntF xs s), rfl, rfl, get_at, by rw [ok.find s, if_pos (mem s hs)], small (by decide), hR⟩
    · walk_at "dl"
      have e2 : (qs.map fun s => stepD (cntF xs s, s)) = (mergeF xs).map stepD := by
        unfold mergeF
        rw [← eq, List.map_map]
        rfl
      rw [e2]
      exact ret_now (q [.dck (entD kv)])
def plF : Int → Steps → Int
  | p, [] => p
  | p, (c, _) :: xs => plF (p - c) xs
def lastS : Int → Steps → Int
  | b, [] => b
  | _, (_, s) :: xs => lastS s xs
theorem pl_snoc (c s : Int) : ∀ (xs : Steps) (p : Int), plF p (xs ++ [(c, s)]) = plF p xs - c
  | [], _ => rfl
  | (_, _) :: xs, _ => pl_snoc c s xs _
theorem last_snoc (c s : Int) : ∀ (xs : Steps) (b : Int), lastS b (xs ++ [(c, s)]) = s
  | [], _ => rfl
  | (_, _) :: xs, _ => last_snoc c s xs _
theorem ent_snoc (c s : Int) : ∀ (xs : Steps) (p b : Int), entF p b (xs ++ [(c, s)]) = entF p b xs ++ [(plF p xs, s - lastS b xs)]
  | [], _, _ => rfl
  | (c', s') :: xs, p, b => by
    show (p, s' - b) :: entF (p - c') s' (xs ++ [(c, s)]) = _
    rw [ent_snoc c s xs (p - c') s']
    rfl
theorem entF_len : ∀ (xs : Steps) (p b : Int), (entF p b xs).length = xs.length
  | [], _, _ => rfl
  | (_, _) :: xs, _, _ => by show _ + 1 = _ + 1; rw [entF_len xs]
theorem ents_snoc (cs : List Curve) (c : Curve) : entsF (cs ++ [c]) = entsF cs ++ entF c.1 0 c.2 := by
  unfold entsF
  rw [List.flatMap_append]
  simp
theorem ents_len {n : Nat} : ∀ (cs : List Curve), (∀ c ∈ cs, c.2.length ≤ n) → (entsF cs).length ≤ cs.length * n
  | [], _ => Nat.zero_le _
  | c :: cs, h => by
    have := ents_len cs fun c hc => h c (List.mem_cons_of_mem _ hc)
    have h1 := h c List.mem_cons_self
    show (entF c.1 0 c.2 ++ entsF cs).length ≤ _
    rw [List.length_append, entF_len, List.length_cons, Nat.succ_mul]
    omega
theorem at_snoc (es : List (Int × Int)) (p v k : Int) : atF (es ++ [(p, v)]) k = if k = p then atF es k + v else atF es k := by
  unfold atF
  rw [List.filter_append, List.map_append, List.sum_append]
  by_cases h : k = p
  · rw [if_pos h, List.filter_cons_of_pos (by simp [h])]
    simp
  · rw [if_neg h, List.filter_cons_of_neg (by simp; exact fun e => h e.symm)]
    simp
theorem at_not {es : List (Int × Int)} {k : Int} (h : k ∉ es.map (·.1)) : atF es k = 0 := by
  unfold atF
  rw [List.filter_eq_nil_iff.mpr fun p hp => ?_]
  · rfl
  · simp
    exact fun e => h (List.mem_map.mpr ⟨p, hp, e⟩)
def scM (es : List (Int × Int)) : Int → List Int → Int
  | s, [] => s
  | s, p :: ps => scM es (s + atF es p) ps
theorem scM_snoc (es : List (Int × Int)) (p : Int) : ∀ (ps : List Int) (s : Int), scM es s (ps ++ [p]) = scM es s ps + atF es p
  | [], _ => rfl
  | _ :: ps, _ => scM_snoc es p ps _
theorem sc_get (es : List (Int × Int)) (bot : Int) : ∀ (ws : List Int) (s : Int) (i : Nat) (h : i < ws.length), (scGo es bot s ws)[i]? = some (ws[i] - (ws.drop (i + 1)).headD bot, scM es s (ws.take (i + 1)))
  | w :: ws, s, 0, _ => rfl
  | w :: ws, s, i + 1, h => sc_get es bot ws _ i (by simpa using h)
theorem sc_len (es : List (Int × Int)) (bot : Int) : ∀ (ws : List Int) (s : Int), (scGo es bot s ws).length = ws.length
  | [], _ => rfl
  | _ :: ws, _ => by show _ + 1 = _ + 1; rw [sc_len es bot ws]
theorem p_summed_curve : Rets sp_summed_curve T_summed_curve N_summed_curve := by
  rintro _ S Φ Ψ ⟨cs, rfl, h1, h2, h3, q⟩
  unfold T_summed_curve
  walk_at "dl"
  refine lc_map cs curveD (fun c => .int (bottomF c)) (small (by omega)) (fun c hc R hR => ?_) ?_
  · walk_at "dl"
    exact ⟨c, rfl, by have := h3 c hc; omega, hR⟩
  walk_at "dl"
  refine ⟨cs.map bottomF, by rw [List.map_map]; rfl, by rw [List.length_map]; omega, fun m hm1 hm2 => ?_⟩
  have em : m = botF cs := maxOf_eq hm1 hm2
  subst em
  refine for_l (ds := cs.map curveD) (fun i Γ S' => ∃ o3 o4 o5 o6 o7 o8 kv, Γ = [some (.lst (cs.map curveD)), some (.int (botF cs)), some (.own S.length), o3, o4, o5, o6, o7, o8, none, none, none, none] ∧ S' = S ++ [.dck (entD kv)] ∧ EntOk kv (atF (entsF (cs.take i))) ((entsF (cs.take i)).map (·.1))) ⟨_, _, _, _, _, _, [], rfl, rfl, EntOk.nil _⟩ (fun i Γ S' hi hp => ?_) fun Γ S' hp => ?_
  · obtain ⟨o3, o4, o5, o6, o7, o8, kv, rfl, rfl, ok⟩ := hp
    rw [List.length_map] at hi
    rw [List.getElem_map]
    have ct : cs.take (i + 1) = cs.take i ++ [cs[i]] := by rw [List.take_add_one, List.getElem?_eq_getElem hi]; rfl
    have lc := h3 _ (List.getElem_mem hi)
    generalize cs[i] = c at ct lc ⊢
    obtain ⟨t, xs⟩ := c
    show tupG 2 _ (D.tup [.int t, stepsD xs]) _ _ _
    walk_at "dl"
    have el : (entsF (cs.take i)).length ≤ 48000 := by
      have := ents_len (n := 800) (cs.take i) fun c hc => h3 c (List.mem_of_mem_take hc)
      rw [List.length_take] at this
      have : min i cs.length * 800 ≤ 60 * 800 := Nat.mul_le_mul_right _ (by omega)
      omega
    refine ⟨⟨_, rfl⟩, for_l (ds := xs.map stepD) (fun j Γ S' => ∃ o7 o8 kv, Γ = [some (.lst (cs.map curveD)), some (.int (botF cs)), some (.own S.length), some (.int t), some (stepsD xs), some (.int (plF t (xs.take j))), some (.int (lastS 0 (xs.take j))), o7, o8, none, none, none, none] ∧ S' = S ++ [.dck (entD kv)] ∧ EntOk kv (atF (entsF (cs.take i) ++ entF t 0 (xs.take j))) ((entsF (cs.take i) ++ entF t 0 (xs.take j)).map (·.1))) ⟨_, _, kv, rfl, rfl, by rw [show entF t 0 (xs.take 0) = [] from rfl, List.append_nil]; exact ok⟩ (fun j Γ S' hj hp => ?_) fun Γ S' hp => ?_⟩
    · obtain ⟨o7, o8, kv, rfl, rfl, ok⟩ := hp
      rw [List.length_map] at hj
      rw [List.getElem_map]
      have xt : xs.take (j + 1) = xs.take j ++ [xs[j]] := by rw [List.take_add_one, List.getElem?_eq_getElem hj]; rfl
      generalize xs[j] = p at xt ⊢
      obtain ⟨c, s⟩ := p
      show tupG 2 _ (D.tup [.int c, .int s]) _ _ _
      have xe : entsF (cs.take i) ++ entF t 0 (xs.take (j + 1)) = (entsF (cs.take i) ++ entF t 0 (xs.take j)) ++ [(plF t (xs.take j), s - lastS 0 (xs.take j))] := by rw [xt, ent_snoc, List.append_assoc]
      have x1 : plF t (xs.take (j + 1)) = plF t (xs.take j) - c := by rw [xt, pl_snoc]
      have x2 : lastS 0 (xs.take (j + 1)) = s := by rw [xt, last_snoc]
      have lk := ok.len
      rw [List.length_map, List.length_append, entF_len, List.length_take] at lk
      rw [x1, x2, xe]
      generalize entsF (cs.take i) ++ entF t 0 (xs.take j) = es at *
      generalize plF t (xs.take j) = pl at *
      generalize lastS 0 (xs.take j) = be at *
      walk_at "dl"
      have eg : (atD (entD kv) (Sum.inl pl)).getD (D.int 0) = .int (atF es pl) := by
        rw [ok.find pl]
        by_cases h : pl ∈ es.map (·.1)
        · rw [if_pos h]; rfl
        · rw [if_neg h, at_not h]; rfl
      refine ⟨_, _, rfl, get_at, _, get_at, ?_⟩
      rw [eg]
      walk_at "dl"
      obtain ⟨kv', e', ok'⟩ := ok.put pl (atF es pl + s - be)
      refine ⟨_, _, .inl pl, rfl, rfl, get_at, by rw [ent_len]; have : xs.length ≤ 800 := lc; omega, _, _, kv', rfl, by rw [set_at, e'], ok'.congr (fun k hk => ?_) (fun k => ?_)⟩
      · rw [at_snoc]
        by_cases h : k = pl
        · rw [if_pos h, if_pos h, h]; omega
        · rw [if_neg h, if_neg h]
      · rw [List.map_append]
        rfl
    · obtain ⟨o7, o8, kv, rfl, rfl, ok⟩ := hp
      rw [List.length_map, List.take_length] at ok ⊢
      refine ⟨_, _, _, _, _, _, kv, rfl, rfl, ?_⟩
      rw [ct, ents_snoc]
      exact ok
  · obtain ⟨o3, o4, o5, o6, o7, o8, kv, rfl, rfl, ok⟩ := hp
    rw [List.length_map, List.take_length] at ok
    walk_at "dl"
    have el : (entsF cs).length ≤ 48000 := by
      have := ents_len (n := 800) cs h3
      have : cs.length * 800 ≤ 60 * 800 := Nat.mul_le_mul_right _ h2
      omega
    refine ⟨_, _, kv.map (·.1), rfl, get_at, EntOk.fst, fun qs hp ho => ?_⟩
    have eq := fall_keys ok hp ho
    have lq : qs.length ≤ 48000 := by
      rw [eq, List.length_reverse]
      exact Nat.le_trans (rise_len _) (by rw [List.length_map]; exact el)
    refine lc_filt qs D.int (fun p => decide (botF cs < p)) (small (by omega)) (fun p hp A N hA hN => ?_) ?_
    · walk_at "dl"
      by_cases c : botF cs < p
      · rw [if_pos (decide_eq_true c)]
        walk_at "dl"
        exact hA (decide_eq_true c)
      · rw [if_neg (by rw [decide_eq_true_eq]; exact c)]
        exact hN (decide_eq_false c)
    · walk_at "dl"
      have hB : sumC cs = (maxOf (cs.map (·.1)), mergeF (scGo (entsF cs) (botF cs) 0 (qs.filter fun p => decide (botF cs < p)))) := by unfold sumC; rw [← eq]
      have lw : (qs.filter fun p => decide (botF cs < p)).length ≤ 48000 := Nat.le_trans (List.length_filter_le _ _) lq
      have hin : ∀ p ∈ qs.filter (fun p => decide (botF cs < p)), p ∈ (entsF cs).map (·.1) := fun p hp => by
        have := (List.mem_filter.mp hp).1
        rw [eq] at this
        exact riseF_mem.mp (List.mem_reverse.mp this)
      generalize qs.filter (fun p => decide (botF cs < p)) = ws at hB lw hin ⊢
      have ec : cutD (ws.map D.int) (some (1 : Int)) none = (ws.drop 1).map D.int := (cut_from (j := 1)).trans (List.map_drop ..).symm
      rw [ec]
      refine ⟨small (Nat.zero_le _), small (by decide), small (by rw [List.length_map, List.length_drop]; omega), ?_⟩
      have src : ((some (ws.map D.int)).bind fun xs => Option.map (fun ys => zipD xs ys) (some ((ws.drop 1).map D.int ++ [D.int (botF cs)]))) = some ((nextL (botF cs) ws).map stepD) := by
        show some (zipD _ _) = _
        rw [zip_next]
      simp only [src]
      have eD : (S ++ [Cell.dck (entD kv)])[S.length]? = some (.dck (entD kv)) := get_at
      have pre : ∃ Z, S ++ [Cell.dck (entD kv)] = S ++ Z := ⟨_, rfl⟩
      generalize S ++ [Cell.dck (entD kv)] = W at eD pre ⊢
      have hS : S.length < W.length := (List.getElem?_eq_some_iff.mp eD).1
      refine for_l (ds := (nextL (botF cs) ws).map stepD) (fun i Γ S' => ∃ o5 o11, Γ = [some (.lst (cs.map curveD)), some (.int (botF cs)), some (.own S.length), o3, o4, o5, o6, o7, some (.int (scM (entsF cs) 0 (ws.take i))), some (.lst (ws.map D.int)), some (.own W.length), o11, none] ∧ S' = W ++ [.lst (((scGo (entsF cs) (botF cs) 0 ws).take i).map stepD)]) ⟨_, _, rfl, rfl⟩ (fun i Γ S' hi hp => ?_) fun Γ S' hp => ?_
      · obtain ⟨o5, o11, rfl, rfl⟩ := hp
        rw [List.length_map, next_len] at hi
        have eg : ((nextL (botF cs) ws).map stepD)[i]'(by rw [List.length_map, next_len]; exact hi) = stepD (ws[i], (ws.drop (i + 1)).headD (botF cs)) := by
          have := next_get (botF cs) ws i hi
          rw [List.getElem?_eq_getElem (by rw [next_len]; exact hi)] at this
          rw [List.getElem_map]
          exact congrArg stepD (Option.some.inj this)
        rw [eg]
        show tupG 2 _ (D.tup [.int ws[i], .int ((ws.drop (i + 1)).headD (botF cs))]) _ _ _
        have wt : ws.take (i + 1) = ws.take i ++ [ws[i]] := by rw [List.take_add_one, List.getElem?_eq_getElem hi]; rfl
        have bg := sc_get (entsF cs) (botF cs) ws 0 i hi
        have bt : (scGo (entsF cs) (botF cs) 0 ws).take (i + 1) = (scGo (entsF cs) (botF cs) 0 ws).take i ++ [(ws[i] - (ws.drop (i + 1)).headD (botF cs), scM (entsF cs) 0 (ws.take (i + 1)))] := by rw [List.take_add_one, bg]; rfl
        have hw := hin _ (List.getElem_mem hi)
        have ems : scM (entsF cs) 0 (ws.take (i + 1)) = scM (entsF cs) 0 (ws.take i) + atF (entsF cs) ws[i] := by rw [wt, scM_snoc]
        generalize hnx : (ws.drop (i + 1)).headD (botF cs) = nx at *
        generalize hwi : ws[i] = w at *
        walk_at "dl"
        refine ⟨_, _, .inl w, .int (atF (entsF cs) w), rfl, rfl, get_app eD, by rw [ok.find w, if_pos hw], ?_⟩
        walk_at "dl"
        rw [← ems]
        refine ⟨isLst_at get_at, small (by decide), _, get_at, under (by rw [List.length_map, List.length_take]; have := sc_len (entsF cs) (botF cs) ws 0; omega), _, _, rfl, ?_⟩
        rw [set_at, bt, List.map_append]
        rfl
      · obtain ⟨o5, o11, rfl, rfl⟩ := hp
        walk_at "dl"
        refine lc_map cs curveD (fun c => .int c.1) (small (by omega)) (fun c hc R hR => ?_) ?_
        · unfold curveD
          walk_at "dl"
          exact hR
        · walk_at "dl"
          refine ⟨cs.map (·.1), by rw [List.map_map]; rfl, by rw [List.length_map]; omega, fun m hm1 hm2 => ?_⟩
          have em : m = maxOf (cs.map (·.1)) := maxOf_eq hm1 hm2
          refine ⟨_, get_at, small (Nat.zero_le _), ?_⟩
          rw [set_at, List.length_map, next_len, List.take_of_length_le (by rw [sc_len]; exact Nat.le_refl _)]
          refine ⟨scGo (entsF cs) (botF cs) 0 ws, [], rfl, by rw [sc_len]; show ws.length + 0 ≤ _; omega, fun Z => ?_⟩
          rw [List.append_nil]
          obtain ⟨Z0, rfl⟩ := pre
          refine ⟨small (by decide), ?_⟩
          have := q (Z0 ++ [.gone] ++ Z)
          rw [hB] at this
          rw [em]
          refine ret_now ?_
          simpa only [List.append_assoc, curveD] using this
end DL
namespace DL
open PySem PySem.Spec PyProof.Rows L2
local macro_rules | `(tactic| walk_at "dl") => `(tactic| ((try simp only [gstart, gwipe, List.set_set, List.map_cons, List.map_nil, List.length_cons, List.length_nil, rep_0, rep_s, List.cons_append, List.nil_append, List.set_cons_zero, List.set_cons_succ, Nat.reduceAdd, Nat.reduceSub, Nat.zero_add, Nat.add_zero]); (try simp only [↓dv0, ↓dv1, ↓dv2, ↓dv3, ↓dv4, ↓dv5, ↓dv6, ↓dv7, ↓dv8, ↓dv9, ↓dv10, ↓dv11, ↓dv12, ↓dv13, ↓dv14, ↓dv15, ↓dv16, ↓dv17, ↓dv18, ↓dv19, ↓dv20, ↓dv21, ↓dv22, ↓dv23, ↓dv24, ↓dv25, ↓dv26, ↓dv27, ↓dv28, ↓dv29, ↓dv30, ↓dv31, ↓dv32, ↓dv33, ↓dv34, ↓dv35, ↓dv36, ↓dv37, ↓dv38, ↓dv39, ↓nm0, ↓nm1, ↓nm2, ↓nm3, ↓nm4, ↓nm5, ↓nm6, ↓nm7, ↓nm8, ↓nm9, ↓nm10, ↓nm11, ↓nm12, ↓nm13, ↓nm14, ↓nm15, ↓nm16, ↓nm17, ↓nm18, ↓nm19, ↓nm20, ↓nm21, ↓nm22, ↓nm23, ↓nm24, ↓nm25, ↓nm26, ↓nm27, ↓nm28, ↓nm29, ↓nm30, ↓nm31, ↓nm32, ↓nm33, ↓nm34, ↓nm35, ↓nm36, ↓nm37, ↓nm38, ↓nm39, ↓sPar_n, ↓sPar3_n, ↓sAug_n, ↓reduceIte, List.set_set, ↓sNext_e, ↓sSeq_e, ↓sBrk_e, ↓sCnt_e, ↓sDrop_e, ↓sRet_e, ↓sRetN_e, ↓sIf_e, ↓sAsg_e, ↓sRaise_e, ↓nmG_e, ↓tupG_e, ↓gsNil_e, ↓gsCons_e, ↓subG_e, ↓dC_e, ↓dOp_e, ↓dUn_e, ↓dChain_e, ↓bOf_e, ↓bAnd_e, ↓bOr_e, ↓bNot_e, ↓bYes_e, ↓dAnd_e, ↓dOr_e, ↓dNot_e, ↓dIf_e, ↓lNil_e, ↓lCons_e, ↓dLst_e, ↓dDic0_e, ↓dDic1_e, ↓dLenSetG_e, dIsB_b, dIsNB_b, dSD_e, ↓dLstO_e, ↓dTup_e, ↓dCB_e, ↓dCall_e, ↓dCallK_e, ↓oNone_e, ↓oSome_e, ↓dSl_e, ↓dBM_e, ↓dBM0_e, ↓dFz_e, ↓dFz2_e, ↓d2_e, ↓dLone_e, ↓lStar_e, ↓dCallA_e, ↓dMakeA_e, ↓dMakeV_e, ↓dMethA_e, ↓dCMethA_e, ↓dPropA_e, ↓dFld_e, ↓sFldS_e, ↓dFzI_e, ↓fzID_o, ↓dM1_e, ↓dM0_e, ↓dRev_e, ↓mSplit_s, ↓mUpper_s, ↓exStr, ↓exZ, ↓cStrI_i, ↓cIntS_s, ↓iStrD_e, ↓dEqF_s, ↓dNeF_s, ↓dEqF_i, ↓dNeF_i, ↓dSign_s, ↓sRaiseI_e, ↓dXFld_e, ↓mPop_e, ↓dAddO_l, ↓dAddO_o, ↓dMk0_e, ↓sKeep_e, ↓sTryH_e, ↓dCVal_e, ↓dConI_e, ↓cLen_s, ↓dIx_s, ↓dSlS_s, ↓dAdd_s, ↓cTup_l, ↓pkP_e, ↓pkS_e, ↓lstG_e, ↓asI_i, ↓iSeq_e, ↓iTupD_e, ↓iRg1_e, ↓iRg2_e, ↓iZipD_e, iZrD_e, ↓iEnumD_e, ↓sFor_e, ↓dLc_e, ↓finF_e, ↓finO_e, ↓fzD_l, ↓fzD_i, ↓fzD_o, ↓fzD2_o, ↓dSetO_e, ↓mAppend_e, ↓mClear_e, ↓mReverse_e, List.map_cons, List.map_nil, List.length_cons, List.length_nil, rep_0, rep_s, List.cons_append, List.nil_append, List.getElem?_cons_zero, List.getElem?_cons_succ, List.set_cons_zero, List.set_cons_succ, Nat.reduceAdd, Nat.reduceSub, Nat.zero_add, Nat.add_zero, ↓exSS, ↓exB, ↓exI, ↓ex1, ↓ex2, ↓ex3, ↓exI1, ↓exI2, ↓exT, ↓exC, ↓exAs, ↓dAdd_i, ↓dAddI_i, ↓dSubI_i, ↓dLRg_e, ↓dIsiT_e, ↓dLenSet_e, ↓bChain3_e, ↓dLRg2_e, ↓iRg3_e, ↓dLc2_e, ↓dSlT_t, dAddT_t, ↓dNewK_e, ↓dDis1_e, ↓sDkp_e, ↓dDGet_e, ↓dDGet2_e, ↓dLVals_e, ↓kD_ex_i, ↓dSS_e, ↓dST_e, ↓dSI_e, ↓lsG_e, ↓dMulI_i, ↓dNew_e, ↓sDct_e, ↓dMulO_l, ↓dLRgO_e, ↓dAdd_l, ↓dSub_i, ↓dMul_i, ↓dMul_l, ↓dMod_i, ↓dDiv_i, ↓dPow_i, ↓dLt_i, ↓dLe_i, ↓dGt_i, ↓dGe_i, ↓uNeg_i, ↓cMax2_i, ↓cMin2_i, ↓cAbs_i, ↓cInt_i, ↓cInt_b, ↓cLen_l, ↓cLen_q, ↓cLen_t, ↓cList_l, ↓cList_q, ↓cList_t, ↓cListO_l, ↓cListO_t, ↓dIx_l, ↓dIx_q, ↓dIx_t, ↓dIx_o', ↓exS, ↓exL, at_1, at_2, at_3, at_4, ix30, ix31, ix32, ↓dSlL_l, ↓dSlL_q, ↓asQ_l, ↓asL_l, at_0, ↓isi_non_int, ↓isi_non_bool, ↓isi_non_str, ↓isi_non_list, ↓isi_non_tuple, ↓isi_non_dict, ↓isi_bl_int, ↓isi_bl_bool, ↓isi_bl_str, ↓isi_bl_list, ↓isi_bl_tuple, ↓isi_bl_dict, ↓isi_int_int, ↓isi_int_bool, ↓isi_int_str, ↓isi_int_list, ↓isi_int_tuple, ↓isi_int_dict, ↓isi_str_int, ↓isi_str_bool, ↓isi_str_str, ↓isi_str_list, ↓isi_str_tuple, ↓isi_str_dict, ↓isi_lst_int, ↓isi_lst_bool, ↓isi_lst_str, ↓isi_lst_list, ↓isi_lst_tuple, ↓isi_lst_dict, ↓isi_sq_int, ↓isi_sq_bool, ↓isi_sq_str, ↓isi_sq_list, ↓isi_sq_tuple, ↓isi_sq_dict, ↓isi_tup_int, ↓isi_tup_bool, ↓isi_tup_str, ↓isi_tup_list, ↓isi_tup_tuple, ↓isi_tup_dict, ↓isi_dic_int, ↓isi_dic_bool, ↓isi_dic_str, ↓isi_dic_list, ↓isi_dic_tuple, ↓isi_dic_dict, if_true, if_false, Bool.not_true, Bool.not_false, true_and, and_true, reduceCtorEq, Bool.true_eq_false, Bool.false_eq_true, ite_true, ite_false, ↓exAny, ↓isLst_l, Int.toNat_natCast, Int.reduceToNat, dVar_e, sPar_e, sPar3_e, sAug_e])))
local macro_rules | `(tactic| walk_at "dls") => `(tactic| ((try simp only [gstart, gwipe, List.set_set, List.map_cons, List.map_nil, List.length_cons, List.length_nil, rep_0, rep_s, List.cons_append, List.nil_append, List.set_cons_zero, List.set_cons_succ, Nat.reduceAdd, Nat.reduceSub, Nat.zero_add, Nat.add_zero]); (try simp only [*, ↓dv0, ↓dv1, ↓dv2, ↓dv3, ↓dv4, ↓dv5, ↓dv6, ↓dv7, ↓dv8, ↓dv9, ↓dv10, ↓dv11, ↓dv12, ↓dv13, ↓dv14, ↓dv15, ↓dv16, ↓dv17, ↓dv18, ↓dv19, ↓dv20, ↓dv21, ↓dv22, ↓dv23, ↓dv24, ↓dv25, ↓dv26, ↓dv27, ↓dv28, ↓dv29, ↓dv30, ↓dv31, ↓dv32, ↓dv33, ↓dv34, ↓dv35, ↓dv36, ↓dv37, ↓dv38, ↓dv39, ↓nm0, ↓nm1, ↓nm2, ↓nm3, ↓nm4, ↓nm5, ↓nm6, ↓nm7, ↓nm8, ↓nm9, ↓nm10, ↓nm11, ↓nm12, ↓nm13, ↓nm14, ↓nm15, ↓nm16, ↓nm17, ↓nm18, ↓nm19, ↓nm20, ↓nm21, ↓nm22, ↓nm23, ↓nm24, ↓nm25, ↓nm26, ↓nm27, ↓nm28, ↓nm29, ↓nm30, ↓nm31, ↓nm32, ↓nm33, ↓nm34, ↓nm35, ↓nm36, ↓nm37, ↓nm38, ↓nm39, ↓sPar_n, ↓sPar3_n, ↓sAug_n, ↓reduceIte, List.set_set, ↓sNext_e, ↓sSeq_e, ↓sBrk_e, ↓sCnt_e, ↓sDrop_e, ↓sRet_e, ↓sRetN_e, ↓sIf_e, ↓sAsg_e, ↓sRaise_e, ↓nmG_e, ↓tupG_e, ↓gsNil_e, ↓gsCons_e, ↓subG_e, ↓dC_e, ↓dOp_e, ↓dUn_e, ↓dChain_e, ↓bOf_e, ↓bAnd_e, ↓bOr_e, ↓bNot_e, ↓bYes_e, ↓dAnd_e, ↓dOr_e, ↓dNot_e, ↓dIf_e, ↓lNil_e, ↓lCons_e, ↓dLst_e, ↓dDic0_e, ↓dDic1_e, ↓dLenSetG_e, dIsB_b, dIsNB_b, dSD_e, ↓dLstO_e, ↓dTup_e, ↓dCB_e, ↓dCall_e, ↓dCallK_e, ↓oNone_e, ↓oSome_e, ↓dSl_e, ↓dBM_e, ↓dBM0_e, ↓dFz_e, ↓dFz2_e, ↓d2_e, ↓dLone_e, ↓lStar_e, ↓dCallA_e, ↓dMakeA_e, ↓dMakeV_e, ↓dMethA_e, ↓dCMethA_e, ↓dPropA_e, ↓dFld_e, ↓sFldS_e, ↓dFzI_e, ↓fzID_o, ↓dM1_e, ↓dM0_e, ↓dRev_e, ↓mSplit_s, ↓mUpper_s, ↓exStr, ↓exZ, ↓cStrI_i, ↓cIntS_s, ↓iStrD_e, ↓dEqF_s, ↓dNeF_s, ↓dEqF_i, ↓dNeF_i, ↓dSign_s, ↓sRaiseI_e, ↓dXFld_e, ↓mPop_e, ↓dAddO_l, ↓dAddO_o, ↓dMk0_e, ↓sKeep_e, ↓sTryH_e, ↓dCVal_e, ↓dConI_e, ↓cLen_s, ↓dIx_s, ↓dSlS_s, ↓dAdd_s, ↓cTup_l, ↓pkP_e, ↓pkS_e, ↓lstG_e, ↓asI_i, ↓iSeq_e, ↓iTupD_e, ↓iRg1_e, ↓iRg2_e, ↓iZipD_e, iZrD_e, ↓iEnumD_e, ↓sFor_e, ↓dLc_e, ↓finF_e, ↓finO_e, ↓fzD_l, ↓fzD_i, ↓fzD_o, ↓fzD2_o, ↓dSetO_e, ↓mAppend_e, ↓mClear_e, ↓mReverse_e, List.map_cons, List.map_nil, List.length_cons, List.length_nil, rep_0, rep_s, List.cons_append, List.nil_append, List.getElem?_cons_zero, List.getElem?_cons_succ, List.set_cons_zero, List.set_cons_succ, Nat.reduceAdd, Nat.reduceSub, Nat.zero_add, Nat.add_zero, ↓exSS, ↓exB, ↓exI, ↓ex1, ↓ex2, ↓ex3, ↓exI1, ↓exI2, ↓exT, ↓exC, ↓exAs, ↓dAdd_i, ↓dAddI_i, ↓dSubI_i, ↓dLRg_e, ↓dIsiT_e, ↓dLenSet_e, ↓bChain3_e, ↓dLRg2_e, ↓iRg3_e, ↓dLc2_e, ↓dSlT_t, dAddT_t, ↓dNewK_e, ↓dDis1_e, ↓sDkp_e, ↓dDGet_e, ↓dDGet2_e, ↓dLVals_e, ↓kD_ex_i, ↓dSS_e, ↓dST_e, ↓dSI_e, ↓lsG_e, ↓dMulI_i, ↓dNew_e, ↓sDct_e, ↓dMulO_l, ↓dLRgO_e, ↓dAdd_l, ↓dSub_i, ↓dMul_i, ↓dMul_l, ↓dMod_i, ↓dDiv_i, ↓dPow_i, ↓dLt_i, ↓dLe_i, ↓dGt_i, ↓dGe_i, ↓uNeg_i, ↓cMax2_i, ↓cMin2_i, ↓cAbs_i, ↓cInt_i, ↓cInt_b, ↓cLen_l, ↓cLen_q, ↓cLen_t, ↓cList_l, ↓cList_q, ↓cList_t, ↓cListO_l, ↓cListO_t, ↓dIx_l, ↓dIx_q, ↓dIx_t, ↓dIx_o', ↓exS, ↓exL, at_1, at_2, at_3, at_4, ix30, ix31, ix32, ↓dSlL_l, ↓dSlL_q, ↓asQ_l, ↓asL_l, at_0, ↓isi_non_int, ↓isi_non_bool, ↓isi_non_str, ↓isi_non_list, ↓isi_non_tuple, ↓isi_non_dict, ↓isi_bl_int, ↓isi_bl_bool, ↓isi_bl_str, ↓isi_bl_list, ↓isi_bl_tuple, ↓isi_bl_dict, ↓isi_int_int, ↓isi_int_bool, ↓isi_int_str, ↓isi_int_list, ↓isi_int_tuple, ↓isi_int_dict, ↓isi_str_int, ↓isi_str_bool, ↓isi_str_str, ↓isi_str_list, ↓isi_str_tuple, ↓isi_str_dict, ↓isi_lst_int, ↓isi_lst_bool, ↓isi_lst_str, ↓isi_lst_list, ↓isi_lst_tuple, ↓isi_lst_dict, ↓isi_sq_int, ↓isi_sq_bool, ↓isi_sq_str, ↓isi_sq_list, ↓isi_sq_tuple, ↓isi_sq_dict, ↓isi_tup_int, ↓isi_tup_bool, ↓isi_tup_str, ↓isi_tup_list, ↓isi_tup_tuple, ↓isi_tup_dict, ↓isi_dic_int, ↓isi_dic_bool, ↓isi_dic_str, ↓isi_dic_list, ↓isi_dic_tuple, ↓isi_dic_dict, if_true, if_false, Bool.not_true, Bool.not_false, true_and, and_true, reduceCtorEq, Bool.true_eq_false, Bool.false_eq_true, ite_true, ite_false, ↓exAny, ↓isLst_l, Int.toNat_natCast, Int.reduceToNat, dVar_e, sPar_e, sPar3_e, sAug_e])))
--MK
theorem runEndF_le (t : List (List Int)) (c : Nat) : ∀ (n l : Nat), l ≤ runEndF t c n l ∧ (l < t.length → runEndF t c n l < t.length)
  | 0, l => ⟨Nat.le_refl _, id⟩
  | n + 1, l => by
    unfold runEndF
    by_cases h : l + 1 < t.length ∧ c + 1 < (t.getD (l + 1) []).length
    · rw [if_pos h]
      have := runEndF_le t c n (l + 1)
      exact ⟨by omega, fun _ => this.2 h.1⟩
    · rw [if_neg h]
      exact ⟨Nat.le_refl _, id⟩
theorem runEndF_in (t : List (List Int)) (c : Nat) : ∀ (n l i : Nat), l < i → i ≤ runEndF t c n l → c + 1 < (t.getD i []).length
  | 0, l, i => fun h h2 => by unfold runEndF at h2; omega
  | n + 1, l, i => fun h h2 => by
    unfold runEndF at h2
    by_cases g : l + 1 < t.length ∧ c + 1 < (t.getD (l + 1) []).length
    · rw [if_pos g] at h2
      by_cases e : i = l + 1
      · rw [e]; exact g.2
      · exact runEndF_in t c n (l + 1) i (by omega) h2
    · rw [if_neg g] at h2
      omega
theorem runEndF_out (t : List (List Int)) (c : Nat) : ∀ (n l : Nat), t.length ≤ l + n + 1 → l < t.length → runEndF t c n l + 1 = t.length ∨ (t.getD (runEndF t c n l + 1) []).length ≤ c + 1
  | 0, l => fun h h2 => .inl (by unfold runEndF; omega)
  | n + 1, l => fun h h2 => by
    unfold runEndF
    by_cases g : l + 1 < t.length ∧ c + 1 < (t.getD (l + 1) []).length
    · rw [if_pos g]
      exact runEndF_out t c n (l + 1) (by omega) g.1
    · rw [if_neg g]
      by_cases e : l + 1 < t.length
      · exact .inr (by rcases Nat.lt_or_ge (c + 1) (t.getD (l + 1) []).length with a | a; exact absurd ⟨e, a⟩ g; exact a)
      · exact .inl (by omega)
theorem tab_get {t : List (List Int)} {i : Nat} (h : i < t.length) : t[i]? = some (t.getD i []) := by
  rw [List.getElem?_eq_getElem h, List.getD_eq_getElem?_getD, List.getElem?_eq_getElem h]; rfl
theorem p_run_end : Rets sp_run_end T_run_end N_run_end := by
  rintro _ S Φ Ψ ⟨d, t, c, l, rfl, ⟨ds, e, rs⟩, hl, hi, q⟩
  have h3 := rs.len
  unfold T_run_end
  walk_at "dl"
  rw [sWhile_e]
  refine ⟨fun n Γ S' => ∃ k : Nat, t.length ≤ k + n ∧ k < t.length ∧ runEndF t c n k = runEnd t c l ∧ Γ = [some d, some (.int c), some (.int l), some (.int k)] ∧ S' = S, ⟨t.length, l, by omega, hi, rfl, rfl, rfl⟩, ?_⟩
  rintro n Γ' S' ⟨k, hk, hkt, hr, rfl, rfl⟩
  walk_at "dl"
  rw [cLen_L e]
  walk_at "dl"
  by_cases g : k + 1 < t.length
  · have er := rs.get g (by omega)
    rw [if_pos (by rw [decide_eq_true_eq]; omega)]
    show dIx d (.int ((k + 1 : Nat) : Int)) _ _
    rw [dIx_L e, at_nat]
    refine ⟨_, List.getElem?_eq_getElem (by omega), ?_⟩
    rw [cLen_L er, List.length_map]
    walk_at "dl"
    have en : ∃ n', n = n' + 1 := ⟨n - 1, by omega⟩
    obtain ⟨n', rfl⟩ := en
    have eg : (t.getD (k + 1) []).length = (t[k + 1]).length := by rw [List.getD_eq_getElem?_getD, List.getElem?_eq_getElem g]; rfl
    by_cases g2 : c + 1 < (t[k + 1]).length
    · rw [if_pos (by rw [decide_eq_true_eq]; omega)]
      unfold runEndF at hr
      rw [if_pos ⟨g, by omega⟩] at hr
      exact ⟨n', by omega, k + 1, by omega, g, hr, rfl⟩
    · rw [if_neg (by rw [decide_eq_true_eq]; omega)]
      unfold runEndF at hr
      rw [if_neg (by omega)] at hr
      rw [← hr] at q
      exact ret_now q
  · rw [if_neg (by rw [decide_eq_true_eq]; omega)]
    have : runEndF t c n k = k := by
      cases n with
      | zero => rfl
      | succ n => unfold runEndF; rw [if_neg (fun a => g a.1)]
    rw [this] at hr
    rw [← hr] at q
    exact ret_now q
section cv
variable {rec : Nat → Nat → Nat → Curve} {least : Int} {t : List (List Int)} {ends : List Int} {c z : Nat}
theorem cv_end {n k : Nat} (h : z < k) : curvesF rec least t ends c z n k = [] := by
  cases n with
  | zero => rfl
  | succ n => unfold curvesF; rw [if_pos h]
theorem cv_short {n k : Nat} (h : k ≤ z) (h2 : (t.getD k []).length ≤ c + 1) : curvesF rec least t ends c z (n + 1) k = (ends.getD k 0, tailF ((t.getD k []).getLastD 0)) :: curvesF rec least t ends c z n (k + 1) := by
  rw [curvesF, if_neg (by omega), if_pos h2]
theorem cv_run {n k : Nat} (h : k ≤ z) (h2 : ¬ (t.getD k []).length ≤ c + 1) : curvesF rec least t ends c z (n + 1) k = ((rec (c + 1) k (runEnd t c k)).1, mergeF (blockF (cellsF t c k (runEnd t c k)) least ++ (rec (c + 1) k (runEnd t c k)).2)) :: curvesF rec least t ends c z n (runEnd t c k + 1) := by
  rw [curvesF, if_neg (by omega), if_neg h2]
end cv
/-- the lines f..z end a run of lines with more than c tabs -/
structure Shut (t : List (List Int)) (c z : Nat) : Prop where
  lt : z < t.length
  out : z + 1 = t.length ∨ (t.getD (z + 1) []).length ≤ c + 1
theorem run_ge {t : List (List Int)} {c k : Nat} : k ≤ runEnd t c k := (runEndF_le t c _ k).1
theorem run_le {t : List (List Int)} {c z k : Nat} (h : Shut t c z) (hk : k ≤ z) : runEnd t c k ≤ z := by
  rcases Nat.lt_or_ge z (runEnd t c k) with a | a
  · have h1 := runEndF_in t c t.length k (z + 1) (by omega) a
    have h2 := (runEndF_le t c t.length k).2 (by have := h.lt; omega)
    have h3 : runEnd t c k < t.length := h2
    rcases h.out with b | b <;> omega
  · exact a
theorem run_shut {t : List (List Int)} {c k : Nat} (hk : k < t.length) : Shut t (c + 1) (runEnd t c k) := by
  refine ⟨(runEndF_le t c t.length k).2 hk, ?_⟩
  rcases runEndF_out t c t.length k (by omega) hk with a | a
  · exact .inl a
  · exact .inr (by unfold runEnd; omega)
theorem merge_len (xs : Steps) : (mergeF xs).length ≤ xs.length := by
  unfold mergeF
  rw [List.length_map]
  exact Nat.le_trans (rise_len _) (by rw [List.length_map]; exact Nat.le_refl _)
theorem block_len (cells : List Int) (least : Int) : (blockF cells least).length ≤ cells.length := by
  unfold blockF
  rw [bs_len, List.length_reverse]
  exact Nat.le_trans (rise_len _) (List.length_filter_le _ _)
theorem cells_len {t : List (List Int)} {c f z : Nat} (h : z < t.length) : (cellsF t c f z).length = z + 1 - f := by
  unfold cellsF
  rw [List.length_map, List.length_take, List.length_drop]
  omega
def lensC (cs : List Curve) : Nat := (cs.map fun c => c.2.length).sum
theorem ents_lens : ∀ cs : List Curve, (entsF cs).length = lensC cs
  | [] => rfl
  | c :: cs => by
    have := ents_lens cs
    show (entF c.1 0 c.2 ++ entsF cs).length = c.2.length + lensC cs
    rw [List.length_append, entF_len, this]
theorem sum_lens (cs : List Curve) : (sumC cs).2.length ≤ lensC cs := by
  refine Nat.le_trans (merge_len _) ?_
  rw [sc_len, ← ents_lens]
  refine Nat.le_trans (List.length_filter_le _ _) ?_
  rw [List.length_reverse]
  exact Nat.le_trans (rise_len _) (by rw [List.length_map]; exact Nat.le_refl _)
theorem lens_mem {cs : List Curve} {c : Curve} (h : c ∈ cs) : c.2.length ≤ lensC cs := by
  induction cs with
  | nil => cases h
  | cons a cs ih =>
    show _ ≤ a.2.length + lensC cs
    rcases List.mem_cons.mp h with rfl | h
    · omega
    · have := ih h; omega
theorem curves_lens {least : Int} {t : List (List Int)} {ends : List Int} {m c z : Nat} (hz : Shut t c z) (ih : ∀ f z, f ≤ z → Shut t (c + 1) z → (curveF least t ends m (c + 1) f z).2.length ≤ (z + 1 - f) * m) : ∀ n k, k ≤ z + 1 → lensC (curvesF (curveF least t ends m) least t ends c z n k) ≤ (z + 1 - k) * (m + 1)
  | 0, k, _ => Nat.zero_le _
  | n + 1, k, hk => by
    rcases Nat.lt_or_ge z k with a | a
    · rw [cv_end a]; exact Nat.zero_le _
    · have hkt : k < t.length := by have := hz.lt; omega
      by_cases s : (t.getD k []).length ≤ c + 1
      · rw [cv_short a s]
        have h1 := curves_lens hz ih n (k + 1) (by omega)
        show (tailF _).length + lensC _ ≤ _
        have h2 : (tailF ((t.getD k []).getLastD 0)).length ≤ 1 := by unfold tailF; split <;> simp
        have h3 : (z + 1 - k) * (m + 1) = (z + 1 - (k + 1)) * (m + 1) + (m + 1) := by rw [show z + 1 - k = z + 1 - (k + 1) + 1 by omega, Nat.succ_mul]
        omega
      · rw [cv_run a s]
        have hr := run_le hz a
        have hg : k ≤ runEnd t c k := run_ge
        have hs := run_shut (c := c) hkt
        have h4 := ih k _ hg hs
        have h1 := curves_lens hz ih n (runEnd t c k + 1) (by omega)
        have h5 := merge_len (blockF (cellsF t c k (runEnd t c k)) least ++ (curveF least t ends m (c + 1) k (runEnd t c k)).2)
        rw [List.length_append] at h5
        have h6 := block_len (cellsF t c k (runEnd t c k)) least
        rw [cells_len hs.lt] at h6
        generalize runEnd t c k = r at *
        show (mergeF _).length + lensC _ ≤ _
        have h3 : (z + 1 - k) * (m + 1) = (z + 1 - (r + 1)) * (m + 1) + (r + 1 - k) * (m + 1) := by rw [← Nat.add_mul]; congr 1; omega
        have h7 : (r + 1 - k) * (m + 1) = (r + 1 - k) * m + (r + 1 - k) := Nat.mul_succ _ _
        omega
theorem curve_len {least : Int} {t : List (List Int)} {ends : List Int} : ∀ (m c f z : Nat), f ≤ z → Shut t c z → (curveF least t ends m c f z).2.length ≤ (z + 1 - f) * m
  | 0, _, _, _, _, _ => Nat.zero_le _
  | m + 1, c, f, z, hf, hz => Nat.le_trans (sum_lens _) (curves_lens hz (fun f z => curve_len m (c + 1) f z) _ f (by omega))
theorem no_lines_curve (ds : List D) (S : Sto) (Φ : KD) (Ψ : KX) : ¬ sp_lines_curve 0 ds S Φ Ψ := by
  rintro ⟨_, t, least, ends, c, f, z, rfl, ok, he, hf, hz, hc, hn, q⟩
  have := hc f (Nat.le_refl _) hf
  omega
theorem p_lines_curve (m : Nat) : Rets (sp_lines_curve (m + 1)) (T_lines_curve (sp_lines_curve m)) N_lines_curve := by
  rintro _ S Φ Ψ ⟨hm12, t, least, ends, c, f, z, rfl, ok, he, hf, hz, hc, hn, q⟩
  unfold T_lines_curve
  walk_at "dl"
  refine ⟨small (Nat.zero_le _), ?_⟩
  rw [sWhile_e]
  refine ⟨fun n Γ S' => ∃ k nf : Nat, ∃ cs : List Curve, ∃ o8 o9 o10 o11 o12 o13 W, Γ = [some (tabD t), some (.int least), some (.lst (ends.map D.int)), some (.int c), some (.int f), some (.int z), some (.own S.length), some (.int k), o8, o9, o10, o11, o12, o13] ∧ S' = S ++ Cell.lst (cs.map curveD) :: W ∧ f ≤ k ∧ k ≤ z + 1 ∧ n = z + 1 - k ∧ cs.length ≤ k - f ∧ (f < k → 1 ≤ cs.length) ∧ z + 1 ≤ nf + k ∧ cs ++ curvesF (curveF least t ends m) least t ends c z nf k = curvesF (curveF least t ends m) least t ends c z (z + 1) f, ⟨z + 1 - f, f, z + 1, [], none, none, none, none, none, none, [], rfl, rfl, by omega, by omega, rfl, by simp, by omega, by omega, rfl⟩, ?_⟩
  rintro n Γ' S' ⟨k, nf, cs, o8, o9, o10, o11, o12, o13, W, rfl, rfl, hfk, hk, rfl, hl, hl2, hnf, hcs⟩
  walk_at "dl"
  by_cases h : k ≤ z
  · rw [if_pos (by rw [decide_eq_true_eq]; omega)]
    rw [sJ_e]
    walk_at "dl"
    have hkt : k < t.length := by omega
    have ix : atI (List.map rowD t) (k : Int) = some (.lst ((t.getD k []).map D.int)) := by
      rw [at_nat, List.getElem?_map, tab_get hkt]
      rfl
    rw [ix]
    refine ⟨_, rfl, ?_⟩
    rw [cLen_L rfl]
    walk_at "dl"
    rw [List.length_map]
    obtain ⟨hcl, hcm⟩ := hc k hfk h
    by_cases sh : (t.getD k []).length ≤ c + 1
    · rw [if_pos (by rw [decide_eq_true_eq]; omega)]
      obtain ⟨nf, rfl⟩ : ∃ n', nf = n' + 1 := ⟨nf - 1, by omega⟩
      rw [cv_short h sh] at hcs
      generalize t.getD k [] = r at *
      have lastr : atI (r.map D.int) (-1) = some (.int (r.getLastD 0)) := by
        rw [at_neg1 (by rw [List.length_map]; omega), last_map (by omega)]
      refine ⟨_, lastr, isLst_at get_at, .int (ends.getD k 0), ?_, ?_⟩
      · rw [at_nat, List.getElem?_map, List.getElem?_eq_getElem (by omega), List.getD_eq_getElem?_getD, List.getElem?_eq_getElem (by omega)]
        rfl
      rw [dJ_e]
      walk_at "dl"
      have el : cs.length < 1000000 := by have := ok.hi; omega
      have fin : ∀ x : D, x = stepsD (tailF (r.getLastD 0)) → ∃ m', m' < z + 1 - k ∧ ∃ (k_1 nf' : Nat) (cs_1 : List Curve) (o8 o9_1 o10_1 o11_1 o12_1 o13_1 : Option D) (W_1 : Sto), [some (tabD t), some (D.int least), some (D.lst (ends.map D.int)), some (D.int c), some (D.int f), some (D.int z), some (D.own S.length), some (D.int ((k : Int) + 1)), some (D.int (r.getLastD 0)), o9, o10, o11, o12, o13] = [some (tabD t), some (D.int least), some (D.lst (ends.map D.int)), some (D.int c), some (D.int f), some (D.int z), some (D.own S.length), some (D.int k_1), o8, o9_1, o10_1, o11_1, o12_1, o13_1] ∧ List.set (S ++ Cell.lst (cs.map curveD) :: W) S.length (Cell.lst (cs.map curveD ++ [D.tup [D.int (ends.getD k 0), x]])) = S ++ Cell.lst (cs_1.map curveD) :: W_1 ∧ f ≤ k_1 ∧ k_1 ≤ z + 1 ∧ m' = z + 1 - k_1 ∧ cs_1.length ≤ k_1 - f ∧ (f < k_1 → 1 ≤ cs_1.length) ∧ z + 1 ≤ nf' + k_1 ∧ cs_1 ++ curvesF (curveF least t ends m) least t ends c z nf' k_1 = curvesF (curveF least t ends m) least t ends c z (z + 1) f := fun x ex => by
        refine ⟨z + 1 - (k + 1), by omega, k + 1, nf, cs ++ [(ends.getD k 0, tailF (r.getLastD 0))], _, _, _, _, _, _, W, rfl, ?_, by omega, by omega, rfl, ?_, fun _ => by rw [List.length_append]; exact Nat.le_add_left _ _, by omega, ?_⟩
        · rw [set_at, List.map_append, ex]
          rfl
        · rw [List.length_append]
          show cs.length + 1 ≤ _
          omega
        · rw [List.append_assoc]
          exact hcs
      by_cases tl : 0 < r.getLastD 0
      · rw [if_pos (decide_eq_true tl)]
        refine ⟨small (by decide), small (by decide), small (by decide), _, get_at, Nat.lt_of_lt_of_le (by rw [List.length_map]; exact el) (small (Nat.le_refl _)), fin _ ?_⟩
        unfold tailF
        rw [if_pos tl]
        rfl
      · rw [if_neg (by rw [decide_eq_true_eq]; exact tl)]
        refine ⟨small (by decide), small (by decide), _, get_at, Nat.lt_of_lt_of_le (by rw [List.length_map]; exact el) (small (Nat.le_refl _)), fin _ ?_⟩
        unfold tailF
        rw [if_neg tl]
        rfl
    · rw [if_neg (by rw [decide_eq_true_eq]; omega)]
      obtain ⟨nf, rfl⟩ : ∃ n', nf = n' + 1 := ⟨nf - 1, by omega⟩
      rw [cv_run h sh] at hcs
      refine ⟨_, t, c, k, rfl, tabS_l t, ok.hi, hkt, ?_⟩
      have hs : Shut t c z := ⟨hz, hn⟩
      have hr := run_le hs h
      have hg : k ≤ runEnd t c k := run_ge
      have hrs := run_shut (c := c) hkt
      have hin := runEndF_in t c t.length k
      refine ⟨by omega, t, least, ends, c + 1, k, runEnd t c k, rfl, ok, he, hg, hrs.lt, fun i h1 h2 => ?_, hrs.out, fun Z => ?_⟩
      · have := hc i (by omega) (by omega)
        refine ⟨?_, by omega⟩
        rcases Nat.lt_or_ge k i with a | a
        · exact hin i a h2
        · rw [show i = k by omega]; omega
      have hlen := curve_len (least := least) (ends := ends) m (c + 1) k _ hg hrs
      have hcell := cells_len (c := c) (f := k) hrs.lt
      have el : cs.length < 1000000 := by have := ok.hi; omega
      have hrt := hrs.lt
      have hkr : (cellsF t c k (runEnd t c k)).length ≤ 60 := by rw [hcell]; have := ok.hi; omega
      have hm : (runEnd t c k + 1 - k) * m ≤ 60 * 12 := Nat.mul_le_mul (by have := ok.hi; omega) (by omega)
      generalize curveF least t ends m (c + 1) k (runEnd t c k) = cu at *
      refine ⟨_, rfl, rfl, _, _, rfl, _, _, rfl, rfl, ?_⟩
      walk_at "dl"
      have esl : cutD (List.map rowD t) (some (k : Int)) (some ((runEnd t c k : Int) + 1)) = ((t.drop k).take (runEnd t c k + 1 - k)).map rowD := by
        rw [show ((runEnd t c k : Int) + 1) = ((runEnd t c k + 1 : Nat) : Int) by omega, cut_mid (by omega) (by rw [List.length_map]; omega), ← List.map_drop, ← List.map_take]
      rw [esl]
      have ecs : (((t.drop k).take (runEnd t c k + 1 - k)).map fun r => D.int (r.getD c 0)) = (cellsF t c k (runEnd t c k)).map D.int := by
        unfold cellsF
        rw [List.map_map]
        rfl
      refine lc_map _ rowD (fun r => D.int (r.getD c 0)) (small (by rw [List.length_take]; omega)) (fun r hr R hR => ?_) ?_
      · walk_at "dl"
        have hcr : c < r.length := by
          obtain ⟨i, hi, e⟩ := List.getElem_of_mem hr
          rw [List.length_take, List.length_drop] at hi
          rw [List.getElem_take, List.getElem_drop] at e
          have := (hc (k + i) (by omega) (by omega)).1
          rw [tab_at (by omega), e] at this
          exact this
        rw [at_nat]
        exact ⟨_, by rw [List.getElem?_map, List.getElem?_eq_getElem hcr, List.getD_eq_getElem?_getD, List.getElem?_eq_getElem hcr]; rfl, hR⟩
      · walk_at "dl"
        rw [ecs]
        generalize cellsF t c k (runEnd t c k) = cells at *
        refine ⟨cells, least, rfl, hkr, fun Z2 => ?_⟩
        have gt : ∀ T : Sto, (S ++ Cell.lst (cs.map curveD) :: W ++ Z ++ Z2 ++ T)[S.length]? = some (.lst (cs.map curveD)) := fun T => get_app (get_app (get_app get_at))
        have hb := block_len cells least
        refine ⟨isLst_at (by have := gt []; rwa [List.append_nil] at this), _, _, rfl, by omega, fun Z3 => ⟨small (by decide), _, gt Z3, Nat.lt_of_lt_of_le (by rw [List.length_map]; exact el) (small (Nat.le_refl _)), ?_⟩⟩
        refine ⟨z + 1 - (runEnd t c k + 1), by omega, runEnd t c k + 1, nf, cs ++ [(cu.1, mergeF (blockF cells least ++ cu.2))], _, _, _, _, _, _, W ++ Z ++ Z2 ++ Z3, rfl, ?_, by omega, by omega, rfl, ?_, fun _ => by rw [List.length_append]; exact Nat.le_add_left _ _, by omega, ?_⟩
        · simp only [List.append_assoc, List.cons_append]
          rw [set_at, List.map_append]
          rfl
        · rw [List.length_append]
          show cs.length + 1 ≤ _
          omega
        · rw [List.append_assoc]
          exact hcs
  · rw [if_neg (by rw [decide_eq_true_eq]; omega)]
    walk_at "dl"
    have ek : k = z + 1 := by omega
    subst ek
    rw [cv_end (by omega), List.append_nil] at hcs
    have hU : sumC cs = curveF least t ends (m + 1) c f z := by
      rw [hcs]
      rfl
    have hb : ∀ cu ∈ cs, cu.2.length ≤ 800 := fun cu hcu => by
      have h1 := lens_mem hcu
      have h2 := curves_lens (least := least) (ends := ends) (m := m) (c := c) ⟨hz, hn⟩ (fun f z => curve_len m (c + 1) f z) (z + 1) f (by omega)
      rw [← hcs] at h2
      have h4 := ok.hi
      have h3 : (z + 1 - f) * (m + 1) ≤ 60 * 13 := Nat.mul_le_mul (by omega) (by omega)
      omega
    refine ⟨_, get_at, cs, rfl, hl2 (by omega), by have := ok.hi; omega, hb, fun Z => ?_⟩
    rw [set_at, hU, List.append_assoc]
    exact ret_now (q _)
theorem p_page_curve (C : Addr) : Rets (sp_page_curve C) (T_page_curve C) N_page_curve := by
  rintro _ S Φ Ψ ⟨t, s, ks, g, l, rfl, ok, es, lk, q⟩
  unfold T_page_curve
  walk_at "dl"
  refine ⟨_, es, s, ks, g, l, rfl, es, tabD t, s, t, ks, g, l, rfl, tabS_l t, ok, es, lk, ?_⟩
  rw [List.length_map]
  have h1 := ok.lo
  have h2 := ok.hi
  refine ⟨Nat.le_refl _, t, l, endsF g l t, 0, 0, t.length - 1, by rw [show ((t.length - 1 : Nat) : Int) = (t.length : Int) - 1 by omega]; rfl, ok, by unfold endsF; rw [List.length_map, List.length_range], Nat.zero_le _, by omega, fun i _ hi => ?_, .inl (by omega), fun Z => ret_now (q Z)⟩
  have := ok.row (t.getD i []) (List.mem_of_getElem? (tab_get (by omega)))
  have := this.lo
  have := (ok.row (t.getD i []) (List.mem_of_getElem? (tab_get (by omega)))).hi
  omega
theorem page_len {t : List (List Int)} (ok : TabOk t) (g l : Int) : (pageC g l t).2.length ≤ 720 := by
  have h1 := ok.lo
  have h2 := ok.hi
  refine Nat.le_trans (curve_len 12 0 0 _ (Nat.zero_le _) ⟨by omega, .inl (by omega)⟩) ?_
  omega
theorem p_narrowest (C : Addr) : Rets (sp_narrowest C) (T_narrowest C) N_narrowest := by
  rintro _ S Φ Ψ ⟨t, s, ks, g, l, rfl, ok, es, lk, q⟩
  unfold T_narrowest
  walk_at "dl"
  refine ⟨tabD t, t, rfl, tabS_l t, ok, t, s, ks, g, l, rfl, ok, es, lk, fun Z => ⟨_, rfl, Nat.le_trans (page_len ok g l) (by decide), ret_now (q Z)⟩⟩
theorem pieces_get : ∀ (xs : Steps) (h : Int) (i : Nat) (hi : i < xs.length), (piecesGo h xs)[i]? = some (plF h (xs.take i) - (xs[i]).1, plF h (xs.take i), (xs[i]).2)
  | (c, s) :: xs, h, 0, _ => rfl
  | (c, s) :: xs, h, i + 1, hi => pieces_get xs (h - c) i (by simpa using hi)
theorem pieces_len : ∀ (xs : Steps) (h : Int), (piecesGo h xs).length = xs.length
  | [], _ => rfl
  | (_, _) :: xs, _ => by show _ + 1 = _ + 1; rw [pieces_len xs]
theorem p_slopes (C : Addr) : Rets (sp_slopes C) (T_slopes C) N_slopes := by
  rintro _ S Φ Ψ ⟨t, s, ks, g, l, rfl, ok, es, lk, q⟩
  unfold T_slopes
  walk_at "dl"
  refine ⟨tabD t, t, rfl, tabS_l t, ok, t, s, ks, g, l, rfl, ok, es, lk, fun Z => ?_⟩
  have hl := page_len ok g l
  generalize pageC g l t = cu at *
  obtain ⟨top, xs⟩ := cu
  refine ⟨_, rfl, rfl, _, _, rfl, _, _, rfl, rfl, small (Nat.zero_le _), ⟨_, rfl⟩, ?_⟩
  refine for_l (ds := xs.map stepD) (fun i Γ S' => ∃ o5 o6, Γ = [some (tabD t), some s, some (.int (plF top (xs.take i))), some (stepsD xs), some (.own (S ++ Z).length), o5, o6] ∧ S' = S ++ Z ++ [.lst (((piecesGo top xs).take i).map pieceD)]) ⟨_, _, rfl, rfl⟩ (fun i Γ S' hi hp => ?_) fun Γ S' hp => ?_
  · obtain ⟨o5, o6, rfl, rfl⟩ := hp
    rw [List.length_map] at hi
    rw [List.getElem_map]
    have xt : xs.take (i + 1) = xs.take i ++ [xs[i]] := by rw [List.take_add_one, List.getElem?_eq_getElem hi]; rfl
    have pg := pieces_get xs top i hi
    have pt : (piecesGo top xs).take (i + 1) = (piecesGo top xs).take i ++ [(plF top (xs.take i) - (xs[i]).1, plF top (xs.take i), (xs[i]).2)] := by rw [List.take_add_one, pg]; rfl
    rw [pt, xt]
    generalize xs[i] = p at *
    obtain ⟨c, sl⟩ := p
    rw [pl_snoc]
    show tupG 2 _ (D.tup [.int c, .int sl]) _ _ _
    walk_at "dl"
    refine ⟨isLst_at get_at, small (by decide), _, get_at, under (by rw [List.length_map, List.length_take, pieces_len]; have : xs.length ≤ 720 := hl; omega), _, _, rfl, ?_⟩
    rw [set_at, List.map_append]
    rfl
  · obtain ⟨o5, o6, rfl, rfl⟩ := hp
    walk_at "dl"
    refine ⟨_, asL_at' get_at, ?_⟩
    rw [List.length_map, List.take_of_length_le (by rw [pieces_len]; exact Nat.le_refl _), List.append_assoc]
    have := q (Z ++ [.lst ((piecesGo top xs).map pieceD)])
    unfold piecesF at this
    rw [List.map_reverse] at this
    exact ret_now this
end DL
namespace DL
open PySem PySem.Spec PyProof.Rows L2
local macro_rules | `(tactic| walk_at "dl") => `(tactic| ((try simp only [gstart, gwipe, List.set_set, List.map_cons, List.map_nil, List.length_cons, List.length_nil, rep_0, rep_s, List.cons_append, List.nil_append, List.set_cons_zero, List.set_cons_succ, Nat.reduceAdd, Nat.reduceSub, Nat.zero_add, Nat.add_zero]); (try simp only [↓dv0, ↓dv1, ↓dv2, ↓dv3, ↓dv4, ↓dv5, ↓dv6, ↓dv7, ↓dv8, ↓dv9, ↓dv10, ↓dv11, ↓dv12, ↓dv13, ↓dv14, ↓dv15, ↓dv16, ↓dv17, ↓dv18, ↓dv19, ↓dv20, ↓dv21, ↓dv22, ↓dv23, ↓dv24, ↓dv25, ↓dv26, ↓dv27, ↓dv28, ↓dv29, ↓dv30, ↓dv31, ↓dv32, ↓dv33, ↓dv34, ↓dv35, ↓dv36, ↓dv37, ↓dv38, ↓dv39, ↓nm0, ↓nm1, ↓nm2, ↓nm3, ↓nm4, ↓nm5, ↓nm6, ↓nm7, ↓nm8, ↓nm9, ↓nm10, ↓nm11, ↓nm12, ↓nm13, ↓nm14, ↓nm15, ↓nm16, ↓nm17, ↓nm18, ↓nm19, ↓nm20, ↓nm21, ↓nm22, ↓nm23, ↓nm24, ↓nm25, ↓nm26, ↓nm27, ↓nm28, ↓nm29, ↓nm30, ↓nm31, ↓nm32, ↓nm33, ↓nm34, ↓nm35, ↓nm36, ↓nm37, ↓nm38, ↓nm39, ↓sPar_n, ↓sPar3_n, ↓sAug_n, ↓reduceIte, List.set_set, ↓sNext_e, ↓sSeq_e, ↓sBrk_e, ↓sCnt_e, ↓sDrop_e, ↓sRet_e, ↓sRetN_e, ↓sIf_e, ↓sAsg_e, ↓sRaise_e, ↓nmG_e, ↓tupG_e, ↓gsNil_e, ↓gsCons_e, ↓subG_e, ↓dC_e, ↓dOp_e, ↓dUn_e, ↓dChain_e, ↓bOf_e, ↓bAnd_e, ↓bOr_e, ↓bNot_e, ↓bYes_e, ↓dAnd_e, ↓dOr_e, ↓dNot_e, ↓dIf_e, ↓lNil_e, ↓lCons_e, ↓dLst_e, ↓dDic0_e, ↓dDic1_e, ↓dLenSetG_e, dIsB_b, dIsNB_b, dSD_e, ↓dLstO_e, ↓dTup_e, ↓dCB_e, ↓dCall_e, ↓dCallK_e, ↓oNone_e, ↓oSome_e, ↓dSl_e, ↓dBM_e, ↓dBM0_e, ↓dFz_e, ↓dFz2_e, ↓d2_e, ↓dLone_e, ↓lStar_e, ↓dCallA_e, ↓dMakeA_e, ↓dMakeV_e, ↓dMethA_e, ↓dCMethA_e, ↓dPropA_e, ↓dFld_e, ↓sFldS_e, ↓dFzI_e, ↓fzID_o, ↓dM1_e, ↓dM0_e, ↓dRev_e, ↓mSplit_s, ↓mUpper_s, ↓exStr, ↓exZ, ↓cStrI_i, ↓cIntS_s, ↓iStrD_e, ↓dEqF_s, ↓dNeF_s, ↓dEqF_i, ↓dNeF_i, ↓dSign_s, ↓sRaiseI_e, ↓dXFld_e, ↓mPop_e, ↓dAddO_l, ↓dAddO_o, ↓dMk0_e, ↓sKeep_e, ↓sTryH_e, ↓dCVal_e, ↓dConI_e, ↓cLen_s, ↓dIx_s, ↓dSlS_s, ↓dAdd_s, ↓cTup_l, ↓pkP_e, ↓pkS_e, ↓lstG_e, ↓asI_i, ↓iSeq_e, ↓iTupD_e, ↓iRg1_e, ↓iRg2_e, ↓iZipD_e, iZrD_e, ↓iEnumD_e, ↓sFor_e, ↓dLc_e, ↓finF_e, ↓finO_e, ↓fzD_l, ↓fzD_i, ↓fzD_o, ↓fzD2_o, ↓dSetO_e, ↓mAppend_e, ↓mClear_e, ↓mReverse_e, List.map_cons, List.map_nil, List.length_cons, List.length_nil, rep_0, rep_s, List.cons_append, List.nil_append, List.getElem?_cons_zero, List.getElem?_cons_succ, List.set_cons_zero, List.set_cons_succ, Nat.reduceAdd, Nat.reduceSub, Nat.zero_add, Nat.add_zero, ↓exSS, ↓exB, ↓exI, ↓ex1, ↓ex2, ↓ex3, ↓exI1, ↓exI2, ↓exT, ↓exC, ↓exAs, ↓dAdd_i, ↓dAddI_i, ↓dSubI_i, ↓dLRg_e, ↓dIsiT_e, ↓dLenSet_e, ↓bChain3_e, ↓dLRg2_e, ↓iRg3_e, ↓dLc2_e, ↓dSlT_t, dAddT_t, ↓dNewK_e, ↓dDis1_e, ↓sDkp_e, ↓dDGet_e, ↓dDGet2_e, ↓dLVals_e, ↓kD_ex_i, ↓dSS_e, ↓dST_e, ↓dSI_e, ↓lsG_e, ↓dMulI_i, ↓dNew_e, ↓sDct_e, ↓dMulO_l, ↓dLRgO_e, ↓dAdd_l, ↓dSub_i, ↓dMul_i, ↓dMul_l, ↓dMod_i, ↓dDiv_i, ↓dPow_i, ↓dLt_i, ↓dLe_i, ↓dGt_i, ↓dGe_i, ↓uNeg_i, ↓cMax2_i, ↓cMin2_i, ↓cAbs_i, ↓cInt_i, ↓cInt_b, ↓cLen_l, ↓cLen_q, ↓cLen_t, ↓cList_l, ↓cList_q, ↓cList_t, ↓cListO_l, ↓cListO_t, ↓dIx_l, ↓dIx_q, ↓dIx_t, ↓dIx_o', ↓exS, ↓exL, at_1, at_2, at_3, at_4, ix30, ix31, ix32, ↓dSlL_l, ↓dSlL_q, ↓asQ_l, ↓asL_l, at_0, ↓isi_non_int, ↓isi_non_bool, ↓isi_non_str, ↓isi_non_list, ↓isi_non_tuple, ↓isi_non_dict, ↓isi_bl_int, ↓isi_bl_bool, ↓isi_bl_str, ↓isi_bl_list, ↓isi_bl_tuple, ↓isi_bl_dict, ↓isi_int_int, ↓isi_int_bool, ↓isi_int_str, ↓isi_int_list, ↓isi_int_tuple, ↓isi_int_dict, ↓isi_str_int, ↓isi_str_bool, ↓isi_str_str, ↓isi_str_list, ↓isi_str_tuple, ↓isi_str_dict, ↓isi_lst_int, ↓isi_lst_bool, ↓isi_lst_str, ↓isi_lst_list, ↓isi_lst_tuple, ↓isi_lst_dict, ↓isi_sq_int, ↓isi_sq_bool, ↓isi_sq_str, ↓isi_sq_list, ↓isi_sq_tuple, ↓isi_sq_dict, ↓isi_tup_int, ↓isi_tup_bool, ↓isi_tup_str, ↓isi_tup_list, ↓isi_tup_tuple, ↓isi_tup_dict, ↓isi_dic_int, ↓isi_dic_bool, ↓isi_dic_str, ↓isi_dic_list, ↓isi_dic_tuple, ↓isi_dic_dict, if_true, if_false, Bool.not_true, Bool.not_false, true_and, and_true, reduceCtorEq, Bool.true_eq_false, Bool.false_eq_true, ite_true, ite_false, ↓exAny, ↓isLst_l, Int.toNat_natCast, Int.reduceToNat, dVar_e, sPar_e, sPar3_e, sAug_e])))
local macro_rules | `(tactic| walk_at "dls") => `(tactic| ((try simp only [gstart, gwipe, List.set_set, List.map_cons, List.map_nil, List.length_cons, List.length_nil, rep_0, rep_s, List.cons_append, List.nil_append, List.set_cons_zero, List.set_cons_succ, Nat.reduceAdd, Nat.reduceSub, Nat.zero_add, Nat.add_zero]); (try simp only [*, ↓dv0, ↓dv1, ↓dv2, ↓dv3, ↓dv4, ↓dv5, ↓dv6, ↓dv7, ↓dv8, ↓dv9, ↓dv10, ↓dv11, ↓dv12, ↓dv13, ↓dv14, ↓dv15, ↓dv16, ↓dv17, ↓dv18, ↓dv19, ↓dv20, ↓dv21, ↓dv22, ↓dv23, ↓dv24, ↓dv25, ↓dv26, ↓dv27, ↓dv28, ↓dv29, ↓dv30, ↓dv31, ↓dv32, ↓dv33, ↓dv34, ↓dv35, ↓dv36, ↓dv37, ↓dv38, ↓dv39, ↓nm0, ↓nm1, ↓nm2, ↓nm3, ↓nm4, ↓nm5, ↓nm6, ↓nm7, ↓nm8, ↓nm9, ↓nm10, ↓nm11, ↓nm12, ↓nm13, ↓nm14, ↓nm15, ↓nm16, ↓nm17, ↓nm18, ↓nm19, ↓nm20, ↓nm21, ↓nm22, ↓nm23, ↓nm24, ↓nm25, ↓nm26, ↓nm27, ↓nm28, ↓nm29, ↓nm30, ↓nm31, ↓nm32, ↓nm33, ↓nm34, ↓nm35, ↓nm36, ↓nm37, ↓nm38, ↓nm39, ↓sPar_n, ↓sPar3_n, ↓sAug_n, ↓reduceIte, List.set_set, ↓sNext_e, ↓sSeq_e, ↓sBrk_e, ↓sCnt_e, ↓sDrop_e, ↓sRet_e, ↓sRetN_e, ↓sIf_e, ↓sAsg_e, ↓sRaise_e, ↓nmG_e, ↓tupG_e, ↓gsNil_e, ↓gsCons_e, ↓subG_e, ↓dC_e, ↓dOp_e, ↓dUn_e, ↓dChain_e, ↓bOf_e, ↓bAnd_e, ↓bOr_e, ↓bNot_e, ↓bYes_e, ↓dAnd_e, ↓dOr_e, ↓dNot_e, ↓dIf_e, ↓lNil_e, ↓lCons_e, ↓dLst_e, ↓dDic0_e, ↓dDic1_e, ↓dLenSetG_e, dIsB_b, dIsNB_b, dSD_e, ↓dLstO_e, ↓dTup_e, ↓dCB_e, ↓dCall_e, ↓dCallK_e, ↓oNone_e, ↓oSome_e, ↓dSl_e, ↓dBM_e, ↓dBM0_e, ↓dFz_e, ↓dFz2_e, ↓d2_e, ↓dLone_e, ↓lStar_e, ↓dCallA_e, ↓dMakeA_e, ↓dMakeV_e, ↓dMethA_e, ↓dCMethA_e, ↓dPropA_e, ↓dFld_e, ↓sFldS_e, ↓dFzI_e, ↓fzID_o, ↓dM1_e, ↓dM0_e, ↓dRev_e, ↓mSplit_s, ↓mUpper_s, ↓exStr, ↓exZ, ↓cStrI_i, ↓cIntS_s, ↓iStrD_e, ↓dEqF_s, ↓dNeF_s, ↓dEqF_i, ↓dNeF_i, ↓dSign_s, ↓sRaiseI_e, ↓dXFld_e, ↓mPop_e, ↓dAddO_l, ↓dAddO_o, ↓dMk0_e, ↓sKeep_e, ↓sTryH_e, ↓dCVal_e, ↓dConI_e, ↓cLen_s, ↓dIx_s, ↓dSlS_s, ↓dAdd_s, ↓cTup_l, ↓pkP_e, ↓pkS_e, ↓lstG_e, ↓asI_i, ↓iSeq_e, ↓iTupD_e, ↓iRg1_e, ↓iRg2_e, ↓iZipD_e, iZrD_e, ↓iEnumD_e, ↓sFor_e, ↓dLc_e, ↓finF_e, ↓finO_e, ↓fzD_l, ↓fzD_i, ↓fzD_o, ↓fzD2_o, ↓dSetO_e, ↓mAppend_e, ↓mClear_e, ↓mReverse_e, List.map_cons, List.map_nil, List.length_cons, List.length_nil, rep_0, rep_s, List.cons_append, List.nil_append, List.getElem?_cons_zero, List.getElem?_cons_succ, List.set_cons_zero, List.set_cons_succ, Nat.reduceAdd, Nat.reduceSub, Nat.zero_add, Nat.add_zero, ↓exSS, ↓exB, ↓exI, ↓ex1, ↓ex2, ↓ex3, ↓exI1, ↓exI2, ↓exT, ↓exC, ↓exAs, ↓dAdd_i, ↓dAddI_i, ↓dSubI_i, ↓dLRg_e, ↓dIsiT_e, ↓dLenSet_e, ↓bChain3_e, ↓dLRg2_e, ↓iRg3_e, ↓dLc2_e, ↓dSlT_t, dAddT_t, ↓dNewK_e, ↓dDis1_e, ↓sDkp_e, ↓dDGet_e, ↓dDGet2_e, ↓dLVals_e, ↓kD_ex_i, ↓dSS_e, ↓dST_e, ↓dSI_e, ↓lsG_e, ↓dMulI_i, ↓dNew_e, ↓sDct_e, ↓dMulO_l, ↓dLRgO_e, ↓dAdd_l, ↓dSub_i, ↓dMul_i, ↓dMul_l, ↓dMod_i, ↓dDiv_i, ↓dPow_i, ↓dLt_i, ↓dLe_i, ↓dGt_i, ↓dGe_i, ↓uNeg_i, ↓cMax2_i, ↓cMin2_i, ↓cAbs_i, ↓cInt_i, ↓cInt_b, ↓cLen_l, ↓cLen_q, ↓cLen_t, ↓cList_l, ↓cList_q, ↓cList_t, ↓cListO_l, ↓cListO_t, ↓dIx_l, ↓dIx_q, ↓dIx_t, ↓dIx_o', ↓exS, ↓exL, at_1, at_2, at_3, at_4, ix30, ix31, ix32, ↓dSlL_l, ↓dSlL_q, ↓asQ_l, ↓asL_l, at_0, ↓isi_non_int, ↓isi_non_bool, ↓isi_non_str, ↓isi_non_list, ↓isi_non_tuple, ↓isi_non_dict, ↓isi_bl_int, ↓isi_bl_bool, ↓isi_bl_str, ↓isi_bl_list, ↓isi_bl_tuple, ↓isi_bl_dict, ↓isi_int_int, ↓isi_int_bool, ↓isi_int_str, ↓isi_int_list, ↓isi_int_tuple, ↓isi_int_dict, ↓isi_str_int, ↓isi_str_bool, ↓isi_str_str, ↓isi_str_list, ↓isi_str_tuple, ↓isi_str_dict, ↓isi_lst_int, ↓isi_lst_bool, ↓isi_lst_str, ↓isi_lst_list, ↓isi_lst_tuple, ↓isi_lst_dict, ↓isi_sq_int, ↓isi_sq_bool, ↓isi_sq_str, ↓isi_sq_list, ↓isi_sq_tuple, ↓isi_sq_dict, ↓isi_tup_int, ↓isi_tup_bool, ↓isi_tup_str, ↓isi_tup_list, ↓isi_tup_tuple, ↓isi_tup_dict, ↓isi_dic_int, ↓isi_dic_bool, ↓isi_dic_str, ↓isi_dic_list, ↓isi_dic_tuple, ↓isi_dic_dict, if_true, if_false, Bool.not_true, Bool.not_false, true_and, and_true, reduceCtorEq, Bool.true_eq_false, Bool.false_eq_true, ite_true, ite_false, ↓exAny, ↓isLst_l, Int.toNat_natCast, Int.reduceToNat, dVar_e, sPar_e, sPar3_e, sAug_e])))
--MK
def tot (xs : Steps) : Int := (xs.map (·.1)).sum
theorem sum_zero {α : Type} : ∀ ks : List α, (ks.map fun _ => (0 : Int)).sum = 0
  | [] => rfl
  | _ :: ks => by rw [List.map_cons, List.sum_cons, sum_zero ks]; rfl
theorem sum_two {α : Type} (f g : α → Int) : ∀ ks : List α, (ks.map fun k => f k + g k).sum = (ks.map f).sum + (ks.map g).sum
  | [] => rfl
  | k :: ks => by rw [List.map_cons, List.sum_cons, List.map_cons, List.sum_cons, List.map_cons, List.sum_cons, sum_two f g ks]; omega
theorem sum_pick (a v : Int) : ∀ {ks : List Int}, ks.Nodup → (ks.map fun k => if a = k then v else 0).sum = if a ∈ ks then v else 0
  | [], _ => rfl
  | k :: ks, h => by
    obtain ⟨h1, h2⟩ := List.nodup_cons.mp h
    rw [List.map_cons, List.sum_cons, sum_pick a v h2]
    by_cases e : a = k
    · subst e
      rw [if_pos rfl, if_neg h1, if_pos List.mem_cons_self]
      omega
    · rw [if_neg e]
      by_cases m : a ∈ ks
      · rw [if_pos m, if_pos (List.mem_cons_of_mem _ m)]; omega
      · rw [if_neg m, if_neg (fun z => by rcases List.mem_cons.mp z with z | z; exact e z; exact m z)]; omega
theorem sum_parts {α : Type} (key val : α → Int) {ks : List Int} (nd : ks.Nodup) : ∀ es : List α, (ks.map fun k => ((es.filter fun e => key e == k).map val).sum).sum = ((es.filter fun e => decide (key e ∈ ks)).map val).sum
  | [] => sum_zero ks
  | e :: es => by
    have ih := sum_parts key val nd es
    have h1 : (fun k => (((e :: es).filter fun e => key e == k).map val).sum) = fun k => (if key e = k then val e else 0) + ((es.filter fun e => key e == k).map val).sum := by
      funext k
      by_cases h : key e = k
      · rw [List.filter_cons_of_pos (by simp [h]), if_pos h]; rfl
      · rw [List.filter_cons_of_neg (by simp [h]), if_neg h]; omega
    rw [h1, sum_two, ih, sum_pick _ _ nd]
    by_cases m : key e ∈ ks
    · rw [if_pos m, List.filter_cons_of_pos (by simp [m])]; rfl
    · rw [if_neg m, List.filter_cons_of_neg (by simp [m])]; omega
theorem sum_nn {α : Type} {f : α → Int} : ∀ {xs : List α}, (∀ x ∈ xs, 0 ≤ f x) → 0 ≤ (xs.map f).sum
  | [], _ => Int.le_refl 0
  | x :: xs, h => by
    rw [List.map_cons, List.sum_cons]
    have := sum_nn fun y hy => h y (List.mem_cons_of_mem _ hy)
    have := h x List.mem_cons_self
    omega
theorem sum_one {α : Type} {f : α → Int} : ∀ {xs : List α}, (∀ x ∈ xs, 1 ≤ f x) → xs ≠ [] → 1 ≤ (xs.map f).sum
  | [], _, h => absurd rfl h
  | x :: xs, h, _ => by
    rw [List.map_cons, List.sum_cons]
    have := sum_nn (f := f) fun y hy => by have := h y (List.mem_cons_of_mem x hy); omega
    have := h x List.mem_cons_self
    omega
theorem sum_le_all {α : Type} {f : α → Int} {B : Int} : ∀ {xs : List α}, (∀ x ∈ xs, f x ≤ B) → (xs.map f).sum ≤ xs.length * B
  | [], _ => by simp
  | x :: xs, h => by
    rw [List.map_cons, List.sum_cons, List.length_cons]
    have h1 := sum_le_all fun z hz => h z (List.mem_cons_of_mem _ hz)
    have h2 := h x List.mem_cons_self
    have h3 : ((xs.length + 1 : Nat) : Int) * B = xs.length * B + B := by rw [Int.natCast_succ, Int.add_mul, Int.one_mul]
    omega
theorem sum_filt {α : Type} {f : α → Int} (p : α → Bool) : ∀ {xs : List α}, (∀ x ∈ xs, 0 ≤ f x) → ((xs.filter p).map f).sum ≤ (xs.map f).sum
  | [], _ => Int.le_refl _
  | x :: xs, h => by
    have h1 := sum_filt (f := f) p (xs := xs) fun z hz => h z (List.mem_cons_of_mem _ hz)
    have h2 := h x List.mem_cons_self
    rw [List.map_cons, List.sum_cons]
    by_cases c : p x = true
    · rw [List.filter_cons_of_pos c, List.map_cons, List.sum_cons]; omega
    · rw [List.filter_cons_of_neg c]; omega
theorem lt_nodup {xs : List Int} (h : xs.Pairwise (· < ·)) : xs.Nodup := h.imp fun a e => by omega
theorem tot_app (xs ys : Steps) : tot (xs ++ ys) = tot xs + tot ys := by unfold tot; rw [List.map_append, List.sum_append]
theorem merge_tot (xs : Steps) : tot (mergeF xs) = tot xs := by
  unfold tot mergeF
  rw [List.map_map]
  have h := sum_parts (fun p : Int × Int => p.2) (fun p => p.1) (lt_nodup (riseF_rise (xs.map (·.2)))) xs
  refine Eq.trans (Eq.trans ?_ h) ?_
  · rfl
  · rw [List.filter_eq_self.mpr fun p hp => decide_eq_true (riseF_mem.mpr (List.mem_map_of_mem hp))]
theorem merge_at {xs : Steps} {p : Int × Int} (h : p ∈ mergeF xs) : ∃ q ∈ xs, q.2 = p.2 := by
  obtain ⟨s, hs, rfl⟩ := List.mem_map.mp h
  obtain ⟨q, hq, e⟩ := List.mem_map.mp (riseF_mem.mp hs)
  exact ⟨q, hq, e⟩
theorem merge_ok {xs : Steps} (h : ∀ p ∈ xs, 1 ≤ p.1 ∧ 1 ≤ p.2) : StOk (mergeF xs) := by
  refine ⟨?_, fun p hp => ?_, fun p hp => ?_⟩
  · unfold mergeF
    exact List.pairwise_map.mpr (riseF_rise _)
  · obtain ⟨q, hq, e⟩ := merge_at hp
    rw [← e]
    exact (h q hq).2
  · obtain ⟨s, hs, rfl⟩ := List.mem_map.mp hp
    obtain ⟨q, hq, e⟩ := List.mem_map.mp (riseF_mem.mp hs)
    refine sum_one (fun p hp => (h p (List.mem_filter.mp hp).1).1) fun e2 => ?_
    have : q ∈ xs.filter fun p => p.2 == s := List.mem_filter.mpr ⟨hq, by simpa using e⟩
    rw [e2] at this
    cases this
theorem sc_all {es : List (Int × Int)} {bot : Int} : ∀ (ws : List Int) (s : Int), ws.Pairwise (· > ·) → (∀ w ∈ ws, bot < w) → (∀ w ∈ ws, 1 ≤ atF es w) → 0 ≤ s → ∀ p ∈ scGo es bot s ws, 1 ≤ p.1 ∧ 1 ≤ p.2 ∧ p.2 ≤ s + (ws.map (atF es)).sum
  | [], _, _, _, _, _, p, hp => nomatch hp
  | w :: ws, s, h1, h2, h3, h4, p, hp => by
    obtain ⟨a, b⟩ := List.pairwise_cons.mp h1
    have c := h3 w List.mem_cons_self
    have d := sum_nn (f := atF es) (xs := ws) fun v hv => by have := h3 v (List.mem_cons_of_mem _ hv); omega
    rw [List.map_cons, List.sum_cons]
    rcases List.mem_cons.mp hp with rfl | hp
    · refine ⟨?_, by show 1 ≤ s + atF es w; omega, by show s + atF es w ≤ _; omega⟩
      show 1 ≤ w - ws.headD bot
      cases ws with
      | nil => have := h2 w List.mem_cons_self; show 1 ≤ w - bot; omega
      | cons v vs => have := a v List.mem_cons_self; show 1 ≤ w - v; omega
    · have := sc_all ws (s + atF es w) b (fun v hv => h2 v (List.mem_cons_of_mem _ hv)) (fun v hv => h3 v (List.mem_cons_of_mem _ hv)) (by omega) p hp
      exact ⟨this.1, this.2.1, by omega⟩
theorem sc_tot {es : List (Int × Int)} {bot : Int} : ∀ (ws : List Int) (s : Int), tot (scGo es bot s ws) = ws.headD bot - bot
  | [], _ => by show (0 : Int) = bot - bot; omega
  | w :: ws, s => by
    have := sc_tot (es := es) (bot := bot) ws (s + atF es w)
    show (w - ws.headD bot) + tot (scGo es bot (s + atF es w) ws) = w - bot
    omega
theorem at_all {es : List (Int × Int)} {ws : List Int} (nd : ws.Nodup) (h : ∀ e ∈ es, 0 ≤ e.2) : (ws.map (atF es)).sum ≤ (es.map (·.2)).sum := by
  have := sum_parts (fun p : Int × Int => p.1) (fun p => p.2) nd es
  exact Int.le_trans (Int.le_of_eq this) (sum_filt _ h)
theorem at_pos {es : List (Int × Int)} {p : Int} (h : ∀ e ∈ es, 1 ≤ e.2) (m : p ∈ es.map (·.1)) : 1 ≤ atF es p := by
  obtain ⟨q, hq, e⟩ := List.mem_map.mp m
  refine sum_one (fun p hp => h p (List.mem_filter.mp hp).1) fun e2 => ?_
  have : q ∈ es.filter fun e => e.1 == p := List.mem_filter.mpr ⟨hq, by simpa using e⟩
  rw [e2] at this
  cases this
theorem bs_sc (cells : List Int) (least : Int) : ∀ (ws : List Int) (m : Int), bsGo cells least m ws = scGo (cells.map fun x => (x, 1)) least m ws
  | [], _ => rfl
  | w :: ws, m => by
    have e : ∀ cells : List Int, ((cells.filter fun x => x == w).length : Int) = atF (cells.map fun x => (x, 1)) w := fun cells => by
      induction cells with
      | nil => rfl
      | cons x xs ih =>
        unfold atF at ih ⊢
        rw [List.map_cons]
        by_cases h : x = w
        · rw [List.filter_cons_of_pos (by simp [h]), List.filter_cons_of_pos (by simp [h]), List.length_cons, List.map_cons, List.sum_cons, ← ih]
          omega
        · rw [List.filter_cons_of_neg (by simp [h]), List.filter_cons_of_neg (by simp [h]), ih]
    unfold bsGo scGo
    rw [e, bs_sc cells least ws]
theorem fall_rise {xs : List Int} : ((riseF xs).reverse).Pairwise (· > ·) := List.pairwise_reverse.mpr (riseF_rise xs)
theorem gt_nodup {xs : List Int} (h : xs.Pairwise (· > ·)) : xs.Nodup := h.imp fun a e => by omega
theorem block_ok {cells : List Int} {least G : Int} (hl : 0 ≤ least) (hc : ∀ x ∈ cells, x ≤ G) (hG : 0 ≤ G) : (∀ p ∈ blockF cells least, 1 ≤ p.1 ∧ 1 ≤ p.2 ∧ p.2 ≤ cells.length) ∧ tot (blockF cells least) ≤ G := by
  unfold blockF
  rw [bs_sc]
  have hm : ∀ w ∈ (riseF (cells.filter fun x => decide (least < x))).reverse, least < w ∧ w ∈ cells := fun w hw => by
    have := List.mem_filter.mp (riseF_mem.mp (List.mem_reverse.mp hw))
    exact ⟨of_decide_eq_true this.2, this.1⟩
  have hf := fall_rise (xs := cells.filter fun x => decide (least < x))
  generalize (riseF (cells.filter fun x => decide (least < x))).reverse = ws at hm hf
  refine ⟨fun p hp => ?_, ?_⟩
  · have h1 := sc_all ws 0 hf (fun w hw => (hm w hw).1) (fun w hw => at_pos (fun e he => ?_) ?_) (Int.le_refl 0) p hp
    · have h2 := at_all (es := cells.map fun x => (x, 1)) (gt_nodup hf) fun e he => by
        obtain ⟨x, _, rfl⟩ := List.mem_map.mp he
        exact Int.zero_le_ofNat 1
      have h3 := sum_le_all (f := fun e : Int × Int => e.2) (B := 1) (xs := cells.map fun x => (x, 1)) fun e he => by
        obtain ⟨x, _, rfl⟩ := List.mem_map.mp he
        exact Int.le_refl 1
      rw [List.length_map] at h3
      exact ⟨h1.1, h1.2.1, by omega⟩
    · obtain ⟨x, _, rfl⟩ := List.mem_map.mp he
      exact Int.le_refl 1
    · rw [List.map_map]
      exact List.mem_map.mpr ⟨w, (hm w hw).2, rfl⟩
  · rw [sc_tot]
    cases ws with
    | nil => show least - least ≤ G; omega
    | cons w ws => have := hc w (hm w List.mem_cons_self).2; show w - least ≤ G; omega
theorem ent_ok : ∀ (xs : Steps) (p b : Int), xs.Pairwise (fun x y => x.2 < y.2) → (∀ x ∈ xs, b < x.2) → (∀ x ∈ xs, 1 ≤ x.1) → ∀ e ∈ entF p b xs, 1 ≤ e.2 ∧ e.1 ≤ p
  | [], _, _, _, _, _, e, he => nomatch he
  | (c, s) :: xs, p, b, h1, h2, h3, e, he => by
    obtain ⟨a, a2⟩ := List.pairwise_cons.mp h1
    have b1 := h2 (c, s) List.mem_cons_self
    have b2 := h3 (c, s) List.mem_cons_self
    rcases List.mem_cons.mp he with rfl | he
    · exact ⟨by show 1 ≤ s - b; have : b < s := b1; omega, Int.le_refl _⟩
    · have := ent_ok xs (p - c) s a2 (fun x hx => a x hx) (fun x hx => h3 x (List.mem_cons_of_mem _ hx)) e he
      have : (1 : Int) ≤ c := b2
      exact ⟨by omega, by omega⟩
theorem ent_sum : ∀ (xs : Steps) (p b : Int), ((entF p b xs).map (·.2)).sum = lastS b xs - b
  | [], _, b => by show (0 : Int) = b - b; omega
  | (c, s) :: xs, p, b => by
    have := ent_sum xs (p - c) s
    show (s - b) + ((entF (p - c) s xs).map (·.2)).sum = lastS s xs - b
    omega
theorem lastS_mem : ∀ (xs : Steps) (b : Int), lastS b xs = b ∨ ∃ x ∈ xs, x.2 = lastS b xs
  | [], _ => .inl rfl
  | (c, s) :: xs, b => by
    rcases lastS_mem xs s with h | ⟨x, hx, e⟩
    · exact .inr ⟨(c, s), List.mem_cons_self, h.symm⟩
    · exact .inr ⟨x, List.mem_cons_of_mem _ hx, e⟩
structure CvOk (B X : Int) (cu : Curve) : Prop where
  st : StOk cu.2
  sl : ∀ p ∈ cu.2, p.2 ≤ B
  tt : tot cu.2 ≤ X
theorem StOk.tot0 {xs : Steps} (h : StOk xs) : 0 ≤ tot xs := sum_nn fun p hp => by have := h.many p hp; omega
theorem ents_mem {cs : List Curve} {e : Int × Int} : e ∈ entsF cs ↔ ∃ c ∈ cs, e ∈ entF c.1 0 c.2 := List.mem_flatMap
theorem ents_sum {B : Int} (hB : 0 ≤ B) : ∀ {cs : List Curve}, (∀ c ∈ cs, ∀ p ∈ c.2, p.2 ≤ B) → ((entsF cs).map (·.2)).sum ≤ cs.length * B
  | [], _ => by simp [entsF]
  | c :: cs, h => by
    have h1 := ents_sum hB (cs := cs) fun d hd => h d (List.mem_cons_of_mem _ hd)
    have h2 := ent_sum c.2 c.1 0
    have h3 : lastS 0 c.2 ≤ B := by
      rcases lastS_mem c.2 0 with e | ⟨x, hx, e⟩
      · rw [e]; exact hB
      · rw [← e]; exact h c List.mem_cons_self x hx
    have h4 : ((cs.length + 1 : Nat) : Int) * B = cs.length * B + B := by rw [Int.natCast_succ, Int.add_mul, Int.one_mul]
    show ((entF c.1 0 c.2 ++ entsF cs).map (·.2)).sum ≤ ((cs.length + 1 : Nat) : Int) * B
    rw [List.map_append, List.sum_append]
    omega
def placesF (cs : List Curve) : List Int := ((riseF ((entsF cs).map (·.1))).reverse.filter fun p => decide (botF cs < p))
theorem places_mem {cs : List Curve} {p : Int} : p ∈ placesF cs ↔ p ∈ (entsF cs).map (·.1) ∧ botF cs < p := by
  unfold placesF
  rw [List.mem_filter, List.mem_reverse, riseF_mem, decide_eq_true_eq]
theorem places_fall {cs : List Curve} : (placesF cs).Pairwise (· > ·) := List.Pairwise.sublist List.filter_sublist fall_rise
theorem bot_le {cs : List Curve} {c : Curve} (h : c ∈ cs) : c.1 - tot c.2 ≤ botF cs := maxOf_le _ (List.mem_map.mpr ⟨c, h, rfl⟩)
theorem bot_mem {cs : List Curve} (h : cs ≠ []) : ∃ c ∈ cs, c.1 - tot c.2 = botF cs := by
  have := maxOf_mem (xs := cs.map bottomF) (by simpa using h)
  obtain ⟨c, hc, e⟩ := List.mem_map.mp this
  exact ⟨c, hc, e⟩
theorem ents_ok {cs : List Curve} (h : ∀ c ∈ cs, StOk c.2) : ∀ e ∈ entsF cs, 1 ≤ e.2 ∧ ∃ c ∈ cs, e.1 ≤ c.1 := fun e he => by
  obtain ⟨c, hc, he⟩ := ents_mem.mp he
  have := ent_ok c.2 c.1 0 (h c hc).rise (fun x hx => by have := (h c hc).slope x hx; omega) (h c hc).many e he
  exact ⟨this.1, c, hc, this.2⟩
theorem sum_tot {cs : List Curve} (h : ∀ c ∈ cs, StOk c.2) : tot (sumC cs).2 = (sumC cs).1 - botF cs := by
  show tot (mergeF (scGo (entsF cs) (botF cs) 0 (placesF cs))) = maxOf (cs.map (·.1)) - botF cs
  rw [merge_tot, sc_tot]
  by_cases e : cs = []
  · subst e; rfl
  have M := maxOf_mem (xs := cs.map (·.1)) (by simpa using e)
  have U : ∀ c ∈ cs, c.1 ≤ maxOf (cs.map (·.1)) := fun c hc => maxOf_le _ (List.mem_map_of_mem hc)
  obtain ⟨d, hd, hdM⟩ := List.mem_map.mp M
  have hle : ∀ p ∈ placesF cs, p ≤ maxOf (cs.map (·.1)) := fun p hp => by
    obtain ⟨q, hq, rfl⟩ := List.mem_map.mp (places_mem.mp hp).1
    obtain ⟨_, c, hc, hle⟩ := ents_ok h q hq
    exact Int.le_trans hle (U c hc)
  obtain ⟨b, hb, hbB⟩ := bot_mem e
  have hbM : botF cs ≤ maxOf (cs.map (·.1)) := by
    have := U b hb
    have := (h b hb).tot0
    omega
  rcases Int.lt_or_le (botF cs) (maxOf (cs.map (·.1))) with lt | le
  · have hin : maxOf (cs.map (·.1)) ∈ placesF cs := by
      refine places_mem.mpr ⟨?_, lt⟩
      have h1 := bot_le hd
      have hne : d.2 ≠ [] := fun e2 => by
        rw [e2] at h1
        have : d.1 - 0 ≤ botF cs := h1
        have : d.1 = maxOf (cs.map (·.1)) := hdM
        omega
      obtain ⟨x, xs, ex⟩ := List.exists_cons_of_ne_nil hne
      refine List.mem_map.mpr ⟨(d.1, x.2 - 0), ents_mem.mpr ⟨d, hd, ?_⟩, hdM⟩
      rw [ex]
      exact List.mem_cons_self
    have hp := places_fall (cs := cs)
    cases ew : placesF cs with
    | nil => rw [ew] at hin; cases hin
    | cons w ws =>
      rw [ew] at hin hp hle
      show w - botF cs = _
      have h1 := hle w List.mem_cons_self
      rcases List.mem_cons.mp hin with e2 | hin
      · omega
      · have := (List.pairwise_cons.mp hp).1 _ hin
        omega
  · have : placesF cs = [] := List.eq_nil_iff_forall_not_mem.mpr fun p hp => by
      have := hle p hp
      have := (places_mem.mp hp).2
      omega
    rw [this]
    show botF cs - botF cs = _
    omega
theorem sum_ok {cs : List Curve} {B X : Int} (hB : 0 ≤ B) (hX : 0 ≤ X) (h : ∀ c ∈ cs, CvOk B X c) : CvOk (cs.length * B) X (sumC cs) := by
  have hs : ∀ c ∈ cs, StOk c.2 := fun c hc => (h c hc).st
  have h1 := sc_all (es := entsF cs) (bot := botF cs) (placesF cs) 0 places_fall (fun w hw => (places_mem.mp hw).2) (fun w hw => at_pos (fun e he => (ents_ok hs e he).1) (places_mem.mp hw).1) (Int.le_refl 0)
  have h2 := at_all (es := entsF cs) (gt_nodup (places_fall (cs := cs))) (fun e he => by have := (ents_ok hs e he).1; omega)
  have h3 := ents_sum hB fun c hc => (h c hc).sl
  refine ⟨merge_ok fun p hp => ⟨(h1 p hp).1, (h1 p hp).2.1⟩, fun p hp => ?_, ?_⟩
  · obtain ⟨q, hq, e⟩ := merge_at hp
    have := (h1 q hq).2.2
    omega
  · rw [sum_tot hs]
    by_cases e : cs = []
    · subst e; exact hX
    have M := maxOf_mem (xs := cs.map (·.1)) (by simpa using e)
    obtain ⟨d, hd, hdM⟩ := List.mem_map.mp M
    have := bot_le hd
    have := (h d hd).tt
    show maxOf (cs.map (·.1)) - botF cs ≤ X
    have : d.1 = maxOf (cs.map (·.1)) := hdM
    omega
theorem curves_count {rec : Nat → Nat → Nat → Curve} {least : Int} {t : List (List Int)} {ends : List Int} {c z : Nat} : ∀ n k, (curvesF rec least t ends c z n k).length ≤ z + 1 - k
  | 0, k => Nat.zero_le _
  | n + 1, k => by
    rcases Nat.lt_or_ge z k with a | a
    · rw [cv_end a]; exact Nat.zero_le _
    · by_cases s : (t.getD k []).length ≤ c + 1
      · rw [cv_short a s, List.length_cons]
        have := curves_count (rec := rec) (least := least) (t := t) (ends := ends) (c := c) (z := z) n (k + 1)
        omega
      · rw [cv_run a s, List.length_cons]
        have := curves_count (rec := rec) (least := least) (t := t) (ends := ends) (c := c) (z := z) n (runEnd t c k + 1)
        have : k ≤ runEnd t c k := run_ge
        omega
theorem tail_ok {x : Int} {G : Int} (h : x ≤ G) (hG : 0 ≤ G) (v : Int) {B : Int} (hB : 1 ≤ B) : CvOk B G (v, tailF x) := by
  unfold tailF
  by_cases c : 0 < x
  · rw [if_pos c]
    refine ⟨⟨List.pairwise_singleton _ _, fun p hp => ?_, fun p hp => ?_⟩, fun p hp => ?_, ?_⟩
    · rw [List.mem_singleton.mp hp]; exact Int.le_refl 1
    · rw [List.mem_singleton.mp hp]; show 1 ≤ x; omega
    · rw [List.mem_singleton.mp hp]; exact hB
    · show x + 0 ≤ G; omega
  · rw [if_neg c]
    exact ⟨⟨.nil, fun p hp => (nomatch hp), fun p hp => (nomatch hp)⟩, fun p hp => (nomatch hp), hG⟩
theorem curves_ok {rec : Nat → Nat → Nat → Curve} {least : Int} {t : List (List Int)} {ends : List Int} {c z : Nat} {B X : Int} (h0 : 0 ≤ least) (hc : CellsIn t GREAT) (ht : t.length ≤ 60) (hB : 60 ≤ B) (hX : 0 ≤ X) (ih : ∀ f z, z < t.length → CvOk B X (rec (c + 1) f z)) (hz : z < t.length) : ∀ n k, ∀ cu ∈ curvesF rec least t ends c z n k, CvOk B (X + GREAT) cu
  | 0, k, cu, h => nomatch h
  | n + 1, k, cu, h => by
    rcases Nat.lt_or_ge z k with a | a
    · rw [cv_end a] at h; cases h
    · have hkt : k < t.length := by omega
      have cell : ∀ r ∈ t, ∀ i, 0 ≤ r.getD i 0 ∧ r.getD i 0 ≤ GREAT := fun r hr i => by
        rw [List.getD_eq_getElem?_getD]
        cases e : r[i]? with
        | none => exact ⟨by decide, by decide⟩
        | some x => exact hc r hr x (List.mem_of_getElem? e)
      by_cases s : (t.getD k []).length ≤ c + 1
      · rw [cv_short a s] at h
        rcases List.mem_cons.mp h with rfl | h
        · have hl : (t.getD k []).getLastD 0 ≤ GREAT := by
            rcases getLastD_mem (xs := t.getD k []) (d := 0) with e | e
            · rw [e]; decide
            · exact (hc _ (List.mem_of_getElem? (tab_get hkt)) _ e).2
          have := tail_ok hl (by decide) (ends.getD k 0) (B := B) (by omega)
          exact ⟨this.st, this.sl, by have := this.tt; omega⟩
        · exact curves_ok h0 hc ht hB hX ih hz n (k + 1) cu h
      · rw [cv_run a s] at h
        rcases List.mem_cons.mp h with rfl | h
        · have hr : runEnd t c k < t.length := (runEndF_le t c t.length k).2 hkt
          have hrec := ih k _ hr
          have hl := cells_len (c := c) (f := k) hr
          have hb := block_ok (cells := cellsF t c k (runEnd t c k)) (least := least) (G := GREAT) h0 (fun x hx => by
            unfold cellsF at hx
            obtain ⟨r, hr, rfl⟩ := List.mem_map.mp hx
            exact (cell r (List.mem_of_mem_drop (List.mem_of_mem_take hr)) c).2) (by decide)
          refine ⟨merge_ok fun p hp => ?_, fun p hp => ?_, ?_⟩
          · rcases List.mem_append.mp hp with hp | hp
            · exact ⟨(hb.1 p hp).1, (hb.1 p hp).2.1⟩
            · exact ⟨hrec.st.many p hp, hrec.st.slope p hp⟩
          · obtain ⟨q, hq, e⟩ := merge_at hp
            rw [← e]
            rcases List.mem_append.mp hq with hq | hq
            · have := (hb.1 q hq).2.2
              omega
            · exact hrec.sl q hq
          · show tot (mergeF _) ≤ _
            rw [merge_tot, tot_app]
            have := hrec.tt
            have := hb.2
            omega
        · exact curves_ok h0 hc ht hB hX ih hz n _ cu h
theorem pow60 (m : Nat) : (60 : Int) ≤ 60 ^ (m + 1) := by
  have : (60 : Nat) ^ 1 ≤ 60 ^ (m + 1) := Nat.pow_le_pow_right (by decide) (by omega)
  exact_mod_cast this
theorem curve_ok {least : Int} {t : List (List Int)} {ends : List Int} (h0 : 0 ≤ least) (hc : CellsIn t GREAT) (ht : t.length ≤ 60) : ∀ (m c f z : Nat), z < t.length → CvOk (60 ^ (m + 1)) (m * GREAT) (curveF least t ends m c f z)
  | 0, c, f, z, hz => ⟨⟨.nil, fun p hp => (nomatch hp), fun p hp => (nomatch hp)⟩, fun p hp => (nomatch hp), by show (0 : Int) ≤ ((0 : Nat) : Int) * GREAT; decide⟩
  | m + 1, c, f, z, hz => by
    have h1 := curves_ok (rec := curveF least t ends m) (ends := ends) (c := c) h0 hc ht (pow60 m) (Int.mul_nonneg (by omega) (by decide)) (fun f z hz => curve_ok h0 hc ht m (c + 1) f z hz) hz (z + 1) f
    have h2 := sum_ok (by have := pow60 m; omega) (Int.add_nonneg (Int.mul_nonneg (by omega) (by decide)) (by decide)) h1
    have h3 := curves_count (rec := curveF least t ends m) (least := least) (t := t) (ends := ends) (c := c) (z := z) (z + 1) f
    refine ⟨h2.st, fun p hp => Int.le_trans (h2.sl p hp) ?_, Int.le_trans h2.tt ?_⟩
    · rw [Int.pow_succ 60 (m + 1), Int.mul_comm]
      exact Int.mul_le_mul_of_nonneg_left (by omega) (by have := pow60 m; omega)
    · rw [Int.natCast_succ, Int.add_mul, Int.one_mul]
      exact Int.le_refl _
end DL
namespace DL
open PySem PySem.Spec PyProof.Rows L2
local macro_rules | `(tactic| walk_at "dl") => `(tactic| ((try simp only [gstart, gwipe, List.set_set, List.map_cons, List.map_nil, List.length_cons, List.length_nil, rep_0, rep_s, List.cons_append, List.nil_append, List.set_cons_zero, List.set_cons_succ, Nat.reduceAdd, Nat.reduceSub, Nat.zero_add, Nat.add_zero]); (try simp only [↓dv0, ↓dv1, ↓dv2, ↓dv3, ↓dv4, ↓dv5, ↓dv6, ↓dv7, ↓dv8, ↓dv9, ↓dv10, ↓dv11, ↓dv12, ↓dv13, ↓dv14, ↓dv15, ↓dv16, ↓dv17, ↓dv18, ↓dv19, ↓dv20, ↓dv21, ↓dv22, ↓dv23, ↓dv24, ↓dv25, ↓dv26, ↓dv27, ↓dv28, ↓dv29, ↓dv30, ↓dv31, ↓dv32, ↓dv33, ↓dv34, ↓dv35, ↓dv36, ↓dv37, ↓dv38, ↓dv39, ↓nm0, ↓nm1, ↓nm2, ↓nm3, ↓nm4, ↓nm5, ↓nm6, ↓nm7, ↓nm8, ↓nm9, ↓nm10, ↓nm11, ↓nm12, ↓nm13, ↓nm14, ↓nm15, ↓nm16, ↓nm17, ↓nm18, ↓nm19, ↓nm20, ↓nm21, ↓nm22, ↓nm23, ↓nm24, ↓nm25, ↓nm26, ↓nm27, ↓nm28, ↓nm29, ↓nm30, ↓nm31, ↓nm32, ↓nm33, ↓nm34, ↓nm35, ↓nm36, ↓nm37, ↓nm38, ↓nm39, ↓sPar_n, ↓sPar3_n, ↓sAug_n, ↓reduceIte, List.set_set, ↓sNext_e, ↓sSeq_e, ↓sBrk_e, ↓sCnt_e, ↓sDrop_e, ↓sRet_e, ↓sRetN_e, ↓sIf_e, ↓sAsg_e, ↓sRaise_e, ↓nmG_e, ↓tupG_e, ↓gsNil_e, ↓gsCons_e, ↓subG_e, ↓dC_e, ↓dOp_e, ↓dUn_e, ↓dChain_e, ↓bOf_e, ↓bAnd_e, ↓bOr_e, ↓bNot_e, ↓bYes_e, ↓dAnd_e, ↓dOr_e, ↓dNot_e, ↓dIf_e, ↓lNil_e, ↓lCons_e, ↓dLst_e, ↓dDic0_e, ↓dDic1_e, ↓dLenSetG_e, dIsB_b, dIsNB_b, dSD_e, ↓dLstO_e, ↓dTup_e, ↓dCB_e, ↓dCall_e, ↓dCallK_e, ↓oNone_e, ↓oSome_e, ↓dSl_e, ↓dBM_e, ↓dBM0_e, ↓dFz_e, ↓dFz2_e, ↓d2_e, ↓dLone_e, ↓lStar_e, ↓dCallA_e, ↓dMakeA_e, ↓dMakeV_e, ↓dMethA_e, ↓dCMethA_e, ↓dPropA_e, ↓dFld_e, ↓sFldS_e, ↓dFzI_e, ↓fzID_o, ↓dM1_e, ↓dM0_e, ↓dRev_e, ↓mSplit_s, ↓mUpper_s, ↓exStr, ↓exZ, ↓cStrI_i, ↓cIntS_s, ↓iStrD_e, ↓dEqF_s, ↓dNeF_s, ↓dEqF_i, ↓dNeF_i, ↓dSign_s, ↓sRaiseI_e, ↓dXFld_e, ↓mPop_e, ↓dAddO_l, ↓dAddO_o, ↓dMk0_e, ↓sKeep_e, ↓sTryH_e, ↓dCVal_e, ↓dConI_e, ↓cLen_s, ↓dIx_s, ↓dSlS_s, ↓dAdd_s, ↓cTup_l, ↓pkP_e, ↓pkS_e, ↓lstG_e, ↓asI_i, ↓iSeq_e, ↓iTupD_e, ↓iRg1_e, ↓iRg2_e, ↓iZipD_e, iZrD_e, ↓iEnumD_e, ↓sFor_e, ↓dLc_e, ↓finF_e, ↓finO_e, ↓fzD_l, ↓fzD_i, ↓fzD_o, ↓fzD2_o, ↓dSetO_e, ↓mAppend_e, ↓mClear_e, ↓mReverse_e, List.map_cons, List.map_nil, List.length_cons, List.length_nil, rep_0, rep_s, List.cons_append, List.nil_append, List.getElem?_cons_zero, List.getElem?_cons_succ, List.set_cons_zero, List.set_cons_succ, Nat.reduceAdd, Nat.reduceSub, Nat.zero_add, Nat.add_zero, ↓exSS, ↓exB, ↓exI, ↓ex1, ↓ex2, ↓ex3, ↓exI1, ↓exI2, ↓exT, ↓exC, ↓exAs, ↓dAdd_i, ↓dAddI_i, ↓dSubI_i, ↓dLRg_e, ↓dIsiT_e, ↓dLenSet_e, ↓bChain3_e, ↓dLRg2_e, ↓iRg3_e, ↓dLc2_e, ↓dSlT_t, dAddT_t, ↓dNewK_e, ↓dDis1_e, ↓sDkp_e, ↓dDGet_e, ↓dDGet2_e, ↓dLVals_e, ↓kD_ex_i, ↓dSS_e, ↓dST_e, ↓dSI_e, ↓lsG_e, ↓dMulI_i, ↓dNew_e, ↓sDct_e, ↓dMulO_l, ↓dLRgO_e, ↓dAdd_l, ↓dSub_i, ↓dMul_i, ↓dMul_l, ↓dMod_i, ↓dDiv_i, ↓dPow_i, ↓dLt_i, ↓dLe_i, ↓dGt_i, ↓dGe_i, ↓uNeg_i, ↓cMax2_i, ↓cMin2_i, ↓cAbs_i, ↓cInt_i, ↓cInt_b, ↓cLen_l, ↓cLen_q, ↓cLen_t, ↓cList_l, ↓cList_q, ↓cList_t, ↓cListO_l, ↓cListO_t, ↓dIx_l, ↓dIx_q, ↓dIx_t, ↓dIx_o', ↓exS, ↓exL, at_1, at_2, at_3, at_4, ix30, ix31, ix32, ↓dSlL_l, ↓dSlL_q, ↓asQ_l, ↓asL_l, at_0, ↓isi_non_int, ↓isi_non_bool, ↓isi_non_str, ↓isi_non_list, ↓isi_non_tuple, ↓isi_non_dict, ↓isi_bl_int, ↓isi_bl_bool, ↓isi_bl_str, ↓isi_bl_list, ↓isi_bl_tuple, ↓isi_bl_dict, ↓isi_int_int, ↓isi_int_bool, ↓isi_int_str, ↓isi_int_list, ↓isi_int_tuple, ↓isi_int_dict, ↓isi_str_int, ↓isi_str_bool, ↓isi_str_str, ↓isi_str_list, ↓isi_str_tuple, ↓isi_str_dict, ↓isi_lst_int, ↓isi_lst_bool, ↓isi_lst_str, ↓isi_lst_list, ↓isi_lst_tuple, ↓isi_lst_dict, ↓isi_sq_int, ↓isi_sq_bool, ↓isi_sq_str, ↓isi_sq_list, ↓isi_sq_tuple, ↓isi_sq_dict, ↓isi_tup_int, ↓isi_tup_bool, ↓isi_tup_str, ↓isi_tup_list, ↓isi_tup_tuple, ↓isi_tup_dict, ↓isi_dic_int, ↓isi_dic_bool, ↓isi_dic_str, ↓isi_dic_list, ↓isi_dic_tuple, ↓isi_dic_dict, if_true, if_false, Bool.not_true, Bool.not_false, true_and, and_true, reduceCtorEq, Bool.true_eq_false, Bool.false_eq_true, ite_true, ite_false, ↓exAny, ↓isLst_l, Int.toNat_natCast, Int.reduceToNat, dVar_e, sPar_e, sPar3_e, sAug_e])))
local macro_rules | `(tactic| walk_at "dls") => `(tactic| ((try simp only [gstart, gwipe, List.set_set, List.map_cons, List.map_nil, List.length_cons, List.length_nil, rep_0, rep_s, List.cons_append, List.nil_append, List.set_cons_zero, List.set_cons_succ, Nat.reduceAdd, Nat.reduceSub, Nat.zero_add, Nat.add_zero]); (try simp only [*, ↓dv0, ↓dv1, ↓dv2, ↓dv3, ↓dv4, ↓dv5, ↓dv6, ↓dv7, ↓dv8, ↓dv9, ↓dv10, ↓dv11, ↓dv12, ↓dv13, ↓dv14, ↓dv15, ↓dv16, ↓dv17, ↓dv18, ↓dv19, ↓dv20, ↓dv21, ↓dv22, ↓dv23, ↓dv24, ↓dv25, ↓dv26, ↓dv27, ↓dv28, ↓dv29, ↓dv30, ↓dv31, ↓dv32, ↓dv33, ↓dv34, ↓dv35, ↓dv36, ↓dv37, ↓dv38, ↓dv39, ↓nm0, ↓nm1, ↓nm2, ↓nm3, ↓nm4, ↓nm5, ↓nm6, ↓nm7, ↓nm8, ↓nm9, ↓nm10, ↓nm11, ↓nm12, ↓nm13, ↓nm14, ↓nm15, ↓nm16, ↓nm17, ↓nm18, ↓nm19, ↓nm20, ↓nm21, ↓nm22, ↓nm23, ↓nm24, ↓nm25, ↓nm26, ↓nm27, ↓nm28, ↓nm29, ↓nm30, ↓nm31, ↓nm32, ↓nm33, ↓nm34, ↓nm35, ↓nm36, ↓nm37, ↓nm38, ↓nm39, ↓sPar_n, ↓sPar3_n, ↓sAug_n, ↓reduceIte, List.set_set, ↓sNext_e, ↓sSeq_e, ↓sBrk_e, ↓sCnt_e, ↓sDrop_e, ↓sRet_e, ↓sRetN_e, ↓sIf_e, ↓sAsg_e, ↓sRaise_e, ↓nmG_e, ↓tupG_e, ↓gsNil_e, ↓gsCons_e, ↓subG_e, ↓dC_e, ↓dOp_e, ↓dUn_e, ↓dChain_e, ↓bOf_e, ↓bAnd_e, ↓bOr_e, ↓bNot_e, ↓bYes_e, ↓dAnd_e, ↓dOr_e, ↓dNot_e, ↓dIf_e, ↓lNil_e, ↓lCons_e, ↓dLst_e, ↓dDic0_e, ↓dDic1_e, ↓dLenSetG_e, dIsB_b, dIsNB_b, dSD_e, ↓dLstO_e, ↓dTup_e, ↓dCB_e, ↓dCall_e, ↓dCallK_e, ↓oNone_e, ↓oSome_e, ↓dSl_e, ↓dBM_e, ↓dBM0_e, ↓dFz_e, ↓dFz2_e, ↓d2_e, ↓dLone_e, ↓lStar_e, ↓dCallA_e, ↓dMakeA_e, ↓dMakeV_e, ↓dMethA_e, ↓dCMethA_e, ↓dPropA_e, ↓dFld_e, ↓sFldS_e, ↓dFzI_e, ↓fzID_o, ↓dM1_e, ↓dM0_e, ↓dRev_e, ↓mSplit_s, ↓mUpper_s, ↓exStr, ↓exZ, ↓cStrI_i, ↓cIntS_s, ↓iStrD_e, ↓dEqF_s, ↓dNeF_s, ↓dEqF_i, ↓dNeF_i, ↓dSign_s, ↓sRaiseI_e, ↓dXFld_e, ↓mPop_e, ↓dAddO_l, ↓dAddO_o, ↓dMk0_e, ↓sKeep_e, ↓sTryH_e, ↓dCVal_e, ↓dConI_e, ↓cLen_s, ↓dIx_s, ↓dSlS_s, ↓dAdd_s, ↓cTup_l, ↓pkP_e, ↓pkS_e, ↓lstG_e, ↓asI_i, ↓iSeq_e, ↓iTupD_e, ↓iRg1_e, ↓iRg2_e, ↓iZipD_e, iZrD_e, ↓iEnumD_e, ↓sFor_e, ↓dLc_e, ↓finF_e, ↓finO_e, ↓fzD_l, ↓fzD_i, ↓fzD_o, ↓fzD2_o, ↓dSetO_e, ↓mAppend_e, ↓mClear_e, ↓mReverse_e, List.map_cons, List.map_nil, List.length_cons, List.length_nil, rep_0, rep_s, List.cons_append, List.nil_append, List.getElem?_cons_zero, List.getElem?_cons_succ, List.set_cons_zero, List.set_cons_succ, Nat.reduceAdd, Nat.reduceSub, Nat.zero_add, Nat.add_zero, ↓exSS, ↓exB, ↓exI, ↓ex1, ↓ex2, ↓ex3, ↓exI1, ↓exI2, ↓exT, ↓exC, ↓exAs, ↓dAdd_i, ↓dAddI_i, ↓dSubI_i, ↓dLRg_e, ↓dIsiT_e, ↓dLenSet_e, ↓bChain3_e, ↓dLRg2_e, ↓iRg3_e, ↓dLc2_e, ↓dSlT_t, dAddT_t, ↓dNewK_e, ↓dDis1_e, ↓sDkp_e, ↓dDGet_e, ↓dDGet2_e, ↓dLVals_e, ↓kD_ex_i, ↓dSS_e, ↓dST_e, ↓dSI_e, ↓lsG_e, ↓dMulI_i, ↓dNew_e, ↓sDct_e, ↓dMulO_l, ↓dLRgO_e, ↓dAdd_l, ↓dSub_i, ↓dMul_i, ↓dMul_l, ↓dMod_i, ↓dDiv_i, ↓dPow_i, ↓dLt_i, ↓dLe_i, ↓dGt_i, ↓dGe_i, ↓uNeg_i, ↓cMax2_i, ↓cMin2_i, ↓cAbs_i, ↓cInt_i, ↓cInt_b, ↓cLen_l, ↓cLen_q, ↓cLen_t, ↓cList_l, ↓cList_q, ↓cList_t, ↓cListO_l, ↓cListO_t, ↓dIx_l, ↓dIx_q, ↓dIx_t, ↓dIx_o', ↓exS, ↓exL, at_1, at_2, at_3, at_4, ix30, ix31, ix32, ↓dSlL_l, ↓dSlL_q, ↓asQ_l, ↓asL_l, at_0, ↓isi_non_int, ↓isi_non_bool, ↓isi_non_str, ↓isi_non_list, ↓isi_non_tuple, ↓isi_non_dict, ↓isi_bl_int, ↓isi_bl_bool, ↓isi_bl_str, ↓isi_bl_list, ↓isi_bl_tuple, ↓isi_bl_dict, ↓isi_int_int, ↓isi_int_bool, ↓isi_int_str, ↓isi_int_list, ↓isi_int_tuple, ↓isi_int_dict, ↓isi_str_int, ↓isi_str_bool, ↓isi_str_str, ↓isi_str_list, ↓isi_str_tuple, ↓isi_str_dict, ↓isi_lst_int, ↓isi_lst_bool, ↓isi_lst_str, ↓isi_lst_list, ↓isi_lst_tuple, ↓isi_lst_dict, ↓isi_sq_int, ↓isi_sq_bool, ↓isi_sq_str, ↓isi_sq_list, ↓isi_sq_tuple, ↓isi_sq_dict, ↓isi_tup_int, ↓isi_tup_bool, ↓isi_tup_str, ↓isi_tup_list, ↓isi_tup_tuple, ↓isi_tup_dict, ↓isi_dic_int, ↓isi_dic_bool, ↓isi_dic_str, ↓isi_dic_list, ↓isi_dic_tuple, ↓isi_dic_dict, if_true, if_false, Bool.not_true, Bool.not_false, true_and, and_true, reduceCtorEq, Bool.true_eq_false, Bool.false_eq_true, ite_true, ite_false, ↓exAny, ↓isLst_l, Int.toNat_natCast, Int.reduceToNat, dVar_e, sPar_e, sPar3_e, sAug_e])))
--MK
structure IsTop (ends : List Int) (f z : Nat) (v : Int) : Prop where
  there : ∃ i, f ≤ i ∧ i ≤ z ∧ ends.getD i 0 = v
  all : ∀ i, f ≤ i → i ≤ z → ends.getD i 0 ≤ v
theorem curves_top {rec : Nat → Nat → Nat → Curve} {least : Int} {t : List (List Int)} {ends : List Int} {c z f : Nat} (hz : Shut t c z) (ih : ∀ k z', f ≤ k → k ≤ z' → z' ≤ z → Shut t (c + 1) z' → (∀ i, k ≤ i → i ≤ z' → c + 1 < (t.getD i []).length) → IsTop ends k z' (rec (c + 1) k z').1) : ∀ n k, f ≤ k → z + 1 ≤ n + k → (∀ cu ∈ curvesF rec least t ends c z n k, ∃ i, k ≤ i ∧ i ≤ z ∧ ends.getD i 0 = cu.1) ∧ ∀ i, k ≤ i → i ≤ z → ∃ cu ∈ curvesF rec least t ends c z n k, ends.getD i 0 ≤ cu.1
  | 0, k, _, hk => ⟨fun cu h => (nomatch h), fun i h1 h2 => by omega⟩
  | n + 1, k, hf, hk => by
    rcases Nat.lt_or_ge z k with a | a
    · rw [cv_end a]
      exact ⟨fun cu h => (nomatch h), fun i h1 h2 => by omega⟩
    · by_cases s : (t.getD k []).length ≤ c + 1
      · rw [cv_short a s]
        obtain ⟨h1, h2⟩ := curves_top (least := least) hz ih n (k + 1) (by omega) (by omega)
        refine ⟨fun cu h => ?_, fun i hi1 hi2 => ?_⟩
        · rcases List.mem_cons.mp h with rfl | h
          · exact ⟨k, Nat.le_refl _, a, rfl⟩
          · obtain ⟨i, b, c, d⟩ := h1 cu h
            exact ⟨i, by omega, c, d⟩
        · by_cases e : i = k
          · subst e
            exact ⟨_, List.mem_cons_self, Int.le_refl _⟩
          · obtain ⟨cu, b, c⟩ := h2 i (by omega) hi2
            exact ⟨cu, List.mem_cons_of_mem _ b, c⟩
      · rw [cv_run a s]
        have hr := run_le hz a
        have hg : k ≤ runEnd t c k := run_ge
        have hrs := run_shut (t := t) (c := c) (k := k) (by have := hz.lt; omega)
        have hin := runEndF_in t c t.length k
        obtain ⟨h1, h2⟩ := curves_top (least := least) hz ih n (runEnd t c k + 1) (by omega) (by omega)
        have h3 := ih k _ hf hg hr hrs fun i hi1 hi2 => by
          rcases Nat.lt_or_ge k i with b | b
          · exact hin i b hi2
          · rw [show i = k by omega]; omega
        refine ⟨fun cu h => ?_, fun i hi1 hi2 => ?_⟩
        · rcases List.mem_cons.mp h with rfl | h
          · obtain ⟨i, b, c, d⟩ := h3.there
            exact ⟨i, b, by omega, d⟩
          · obtain ⟨i, b, c, d⟩ := h1 cu h
            exact ⟨i, by omega, c, d⟩
        · by_cases e : i ≤ runEnd t c k
          · exact ⟨_, List.mem_cons_self, h3.all i hi1 e⟩
          · obtain ⟨cu, b, c⟩ := h2 i (by omega) hi2
            exact ⟨cu, List.mem_cons_of_mem _ b, c⟩
theorem curve_top {least : Int} {t : List (List Int)} {ends : List Int} : ∀ (m c f z : Nat), f ≤ z → Shut t c z → (∀ i, f ≤ i → i ≤ z → c < (t.getD i []).length ∧ (t.getD i []).length ≤ c + m) → IsTop ends f z (curveF least t ends m c f z).1
  | 0, c, f, z, hf, hz, hc => by have := hc f (Nat.le_refl _) hf; omega
  | m + 1, c, f, z, hf, hz, hc => by
    obtain ⟨h1, h2⟩ := curves_top (rec := curveF least t ends m) (least := least) (ends := ends) (f := f) hz (fun k z' hfk hk hz' hs hl => curve_top m (c + 1) k z' hk hs fun i a b => ⟨hl i a b, by have := (hc i (by omega) (by omega)).2; omega⟩) (z + 1) f (Nat.le_refl _) (by omega)
    have hd : (curveF least t ends (m + 1) c f z).1 = maxOf ((curvesF (curveF least t ends m) least t ends c z (z + 1) f).map (·.1)) := rfl
    rw [hd]
    obtain ⟨cu, hcu, _⟩ := h2 f (Nat.le_refl _) hf
    refine ⟨?_, fun i a b => ?_⟩
    · have hne : (curvesF (curveF least t ends m) least t ends c z (z + 1) f).map (·.1) ≠ [] := fun e => by
        rw [List.map_eq_nil_iff] at e
        rw [e] at hcu
        cases hcu
      obtain ⟨d, hd, e⟩ := List.mem_map.mp (maxOf_mem hne)
      rw [← e]
      exact h1 d hd
    · obtain ⟨d, hd, e⟩ := h2 i a b
      exact Int.le_trans e (maxOf_le _ (List.mem_map_of_mem hd))
theorem ends_len (g l : Int) (t : List (List Int)) : (endsF g l t).length = t.length := by unfold endsF; rw [List.length_map, List.length_range]
theorem page_top {t : List (List Int)} (ok : TabOk t) (g l : Int) : (pageC g l t).1 = maxOf (endsF g l t) := by
  have h1 := ok.lo
  have h2 := ok.hi
  have h := curve_top (least := l) (t := t) (ends := endsF g l t) 12 0 0 (t.length - 1) (Nat.zero_le _) ⟨by omega, .inl (by omega)⟩ fun i _ hi => by
    have := (ok.row (t.getD i []) (List.mem_of_getElem? (tab_get (by omega)))).lo
    have := (ok.row (t.getD i []) (List.mem_of_getElem? (tab_get (by omega)))).hi
    omega
  have hl := ends_len g l t
  refine maxOf_eq ?_ fun y hy => ?_
  · obtain ⟨i, _, hi, e⟩ := h.there
    have hi2 : i < (endsF g l t).length := by omega
    rw [List.getD_eq_getElem?_getD, List.getElem?_eq_getElem hi2] at e
    show (curveF l t (endsF g l t) 12 0 0 (t.length - 1)).1 ∈ _
    rw [← e]
    exact List.getElem_mem hi2
  · obtain ⟨i, hi, e⟩ := List.getElem_of_mem hy
    have := h.all i (Nat.zero_le _) (by omega)
    rw [List.getD_eq_getElem?_getD, List.getElem?_eq_getElem hi] at this
    rw [← e]
    exact this
def priceG : Int → Steps → Int → Int
  | _, [], _ => 0
  | h, (c, s) :: xs, w => s * max 0 (h - max (h - c) w) + priceG (h - c) xs w
theorem price_nn : ∀ (xs : Steps) (h w : Int), (∀ p ∈ xs, 1 ≤ p.2) → 0 ≤ priceG h xs w
  | [], _, _, _ => Int.le_refl 0
  | (c, s) :: xs, h, w, hs => by
    have h1 := price_nn xs (h - c) w fun p hp => hs p (List.mem_cons_of_mem _ hp)
    have h2 : (1 : Int) ≤ s := hs (c, s) List.mem_cons_self
    have := Int.mul_nonneg (a := s) (b := max 0 (h - max (h - c) w)) (by omega) (by omega)
    show 0 ≤ s * max 0 (h - max (h - c) w) + priceG (h - c) xs w
    omega
theorem price_zero : ∀ (xs : Steps) (h w : Int), (∀ p ∈ xs, 1 ≤ p.1) → h ≤ w → priceG h xs w = 0
  | [], _, _, _, _ => rfl
  | (c, s) :: xs, h, w, hc, hw => by
    have h2 : (1 : Int) ≤ c := hc (c, s) List.mem_cons_self
    have h1 := price_zero xs (h - c) w (fun p hp => hc p (List.mem_cons_of_mem _ hp)) (by omega)
    show s * max 0 (h - max (h - c) w) + priceG (h - c) xs w = 0
    rw [h1, show max 0 (h - max (h - c) w) = 0 by omega]
    omega
theorem price_anti : ∀ (xs : Steps) (h w v : Int), (∀ p ∈ xs, 1 ≤ p.2) → v ≤ w → priceG h xs w ≤ priceG h xs v
  | [], _, _, _, _, _ => Int.le_refl 0
  | (c, s) :: xs, h, w, v, hs, hw => by
    have h1 := price_anti xs (h - c) w v (fun p hp => hs p (List.mem_cons_of_mem _ hp)) hw
    have h2 : (1 : Int) ≤ s := hs (c, s) List.mem_cons_self
    have h3 : s * max 0 (h - max (h - c) w) ≤ s * max 0 (h - max (h - c) v) := Int.mul_le_mul_of_nonneg_left (by omega) (by omega)
    show s * max 0 (h - max (h - c) w) + priceG (h - c) xs w ≤ s * max 0 (h - max (h - c) v) + priceG (h - c) xs v
    omega
theorem minQ_le {c q : Int} : minQ c q ≤ c ∧ minQ c q ≤ q := by unfold minQ; split <;> omega
theorem greedy : ∀ (xs : Steps) (h left : Int), (∀ p ∈ xs, 1 ≤ p.2) → (∀ p ∈ xs, 1 ≤ p.1) → 0 ≤ left → (h - tot xs ≤ takeGo h left xs ∧ takeGo h left xs ≤ h) ∧ priceG h xs (takeGo h left xs) ≤ left ∧ (h - tot xs < takeGo h left xs → left < priceG h xs (takeGo h left xs - 1))
  | [], h, left, _, _, hl => ⟨⟨by show h - 0 ≤ h; omega, Int.le_refl _⟩, hl, fun z => by have : h - 0 < h := z; omega⟩
  | (c, s) :: xs, h, left, hs, hc, hl => by
    have s1 : (1 : Int) ≤ s := hs (c, s) List.mem_cons_self
    have c1 : (1 : Int) ≤ c := hc (c, s) List.mem_cons_self
    have hs' : ∀ p ∈ xs, 1 ≤ p.2 := fun p hp => hs p (List.mem_cons_of_mem _ hp)
    have hc' : ∀ p ∈ xs, 1 ≤ p.1 := fun p hp => hc p (List.mem_cons_of_mem _ hp)
    have ht : tot ((c, s) :: xs) = c + tot xs := rfl
    have ht0 : 0 ≤ tot xs := sum_nn fun p hp => by have := hc' p hp; omega
    have q0 : 0 ≤ left / s := Int.ediv_nonneg hl (by omega)
    have q1 : left / s * s ≤ left := Int.ediv_mul_le _ (by omega)
    have q2 : left < (left / s + 1) * s := Int.lt_ediv_add_one_mul_self left (by omega)
    rw [ht]
    unfold takeGo
    by_cases hq : minQ c (left / s) < c
    · rw [if_pos hq]
      have em : minQ c (left / s) = left / s := by unfold minQ at hq ⊢; split <;> simp_all
      rw [em] at hq ⊢
      generalize left / s = q at *
      refine ⟨⟨by omega, by omega⟩, ?_, fun _ => ?_⟩
      · show s * max 0 (h - max (h - c) (h - q)) + priceG (h - c) xs (h - q) ≤ left
        rw [price_zero xs (h - c) (h - q) hc' (by omega), show max 0 (h - max (h - c) (h - q)) = q by omega, Int.mul_comm]
        omega
      · show left < s * max 0 (h - max (h - c) (h - q - 1)) + priceG (h - c) xs (h - q - 1)
        have := price_nn xs (h - c) (h - q - 1) hs'
        rw [show max 0 (h - max (h - c) (h - q - 1)) = q + 1 by omega, Int.mul_comm]
        omega
    · rw [if_neg hq]
      have em : minQ c (left / s) = c := by have := (minQ_le (c := c) (q := left / s)).1; omega
      have hcq : c ≤ left / s := by have := (minQ_le (c := c) (q := left / s)).2; omega
      rw [em]
      have hcs : c * s ≤ left := Int.le_trans (Int.mul_le_mul_of_nonneg_right hcq (by omega)) q1
      obtain ⟨⟨a1, a2⟩, a3, a4⟩ := greedy xs (h - c) (left - c * s) hs' hc' (by omega)
      generalize takeGo (h - c) (left - c * s) xs = W at *
      refine ⟨⟨by omega, by omega⟩, ?_, fun z => ?_⟩
      · show s * max 0 (h - max (h - c) W) + priceG (h - c) xs W ≤ left
        rw [show max 0 (h - max (h - c) W) = c by omega, Int.mul_comm]
        omega
      · have := a4 (by omega)
        show left < s * max 0 (h - max (h - c) (W - 1)) + priceG (h - c) xs (W - 1)
        rw [show max 0 (h - max (h - c) (W - 1)) = c by omega, Int.mul_comm]
        omega
theorem p_width_for (I C : Addr) : Rets (sp_width_for C I) (T_width_for I C) N_width_for := by
  rintro _ S Φ Ψ ⟨t, s, ks, g, l, n, rfl, ok, es, lk, hn2, q, q2⟩
  unfold T_width_for
  walk_at "dl"
  refine ⟨tabD t, t, rfl, tabS_l t, ok, ?_⟩
  by_cases hn : n < 0
  · show if decide (n < 0) = true then _ else _
    rw [if_pos (decide_eq_true hn)]
    exact .inl (q2 hn)
  show if decide (n < 0) = true then _ else _
  rw [if_neg (by rw [decide_eq_true_eq]; exact hn)]
  refine ⟨t, s, ks, g, l, rfl, ok, es, lk, fun Z => ?_⟩
  have hl := page_len ok g l
  have hok : CvOk (60 ^ 13) (((12 : Nat) : Int) * GREAT) (pageC g l t) := curve_ok lk.l0 ok.cells ok.hi 12 0 0 _ (by have := ok.lo; omega)
  replace q := q (by omega) Z
  unfold widthForF at q
  generalize pageC g l t = cu at *
  obtain ⟨top, xs⟩ := cu
  refine ⟨_, rfl, rfl, _, _, rfl, _, _, rfl, rfl, ⟨_, rfl⟩, ?_⟩
  refine for_l (ds := xs.map stepD) (fun i Γ S' => ∃ w left o6 o7 o8, Γ = [some (tabD t), some s, some (.int n), some (.int w), some (stepsD xs), some (.int left), o6, o7, o8] ∧ S' = S ++ Z ∧ 0 ≤ left ∧ left ≤ n ∧ takeGo w left (xs.drop i) = takeGo top n xs) ⟨_, _, _, _, _, rfl, rfl, by omega, Int.le_refl _, rfl⟩ (fun i Γ S' hi hp => ?_) fun Γ S' hp => ?_
  · obtain ⟨w, left, o6, o7, o8, rfl, rfl, h0, h1, ht⟩ := hp
    rw [List.length_map] at hi
    rw [List.getElem_map]
    rw [List.drop_eq_getElem_cons hi] at ht
    have hm := List.getElem_mem hi
    generalize xs[i] = p at *
    obtain ⟨c, sl⟩ := p
    have s1 : (1 : Int) ≤ sl := hok.st.slope _ hm
    have s2 : sl ≤ 60 ^ 13 := hok.sl _ hm
    have c1 : (1 : Int) ≤ c := hok.st.many _ hm
    show tupG 2 _ (D.tup [.int c, .int sl]) _ _ _
    walk_at "dl"
    have em : (if left / sl < c then left / sl else c) = minQ c (left / sl) := rfl
    have q0 : 0 ≤ left / sl := Int.ediv_nonneg h0 (by omega)
    have q1 : left / sl ≤ left := Int.ediv_le_self _ h0
    have qs : left / sl * sl ≤ left := Int.ediv_mul_le _ (by omega)
    rw [em]
    have m1 := minQ_le (c := c) (q := left / sl)
    have m0 : 0 ≤ minQ c (left / sl) := by unfold minQ; split <;> omega
    have m2 : minQ c (left / sl) * sl ≤ left := Int.le_trans (Int.mul_le_mul_of_nonneg_right m1.2 (by omega)) qs
    have m3 : 0 ≤ minQ c (left / sl) * sl := Int.mul_nonneg m0 (by omega)
    refine ⟨wide_div (b := 100) (by omega) (by have : (60 : Int) ^ 13 < 2 ^ 100 := by decide
                                               omega) (by decide) (by decide), .inr (wide_mul (a := 400) (b := 100) (by omega) (by have : (60 : Int) ^ 13 < 2 ^ 100 := by decide
                                                                                                                                   omega) (by decide) (by decide) (by decide)), ?_⟩
    rw [show takeGo w left ((c, sl) :: xs.drop (i + 1)) = if minQ c (left / sl) < c then w - minQ c (left / sl) else takeGo (w - minQ c (left / sl)) (left - minQ c (left / sl) * sl) (xs.drop (i + 1)) from rfl] at ht
    generalize minQ c (left / sl) = mq at *
    by_cases hq : mq < c
    · rw [if_pos (decide_eq_true hq)]
      rw [if_pos hq] at ht
      rw [← ht] at q
      exact ret_now q
    · rw [if_neg (by rw [decide_eq_true_eq]; exact hq)]
      rw [if_neg hq] at ht
      exact ⟨_, _, _, _, _, rfl, by omega, by omega, ht⟩
  · obtain ⟨w, left, o6, o7, o8, rfl, rfl, h0, h1, ht⟩ := hp
    rw [List.length_map, List.drop_length] at ht
    walk_at "dl"
    rw [← ht] at q
    exact ret_now q
end DL
namespace DL
open PySem PySem.Spec PyProof.Rows L2
local macro_rules | `(tactic| walk_at "dl") => `(tactic| ((try simp only [gstart, gwipe, List.set_set, List.map_cons, List.map_nil, List.length_cons, List.length_nil, rep_0, rep_s, List.cons_append, List.nil_append, List.set_cons_zero, List.set_cons_succ, Nat.reduceAdd, Nat.reduceSub, Nat.zero_add, Nat.add_zero]); (try simp only [↓dv0, ↓dv1, ↓dv2, ↓dv3, ↓dv4, ↓dv5, ↓dv6, ↓dv7, ↓dv8, ↓dv9, ↓dv10, ↓dv11, ↓dv12, ↓dv13, ↓dv14, ↓dv15, ↓dv16, ↓dv17, ↓dv18, ↓dv19, ↓dv20, ↓dv21, ↓dv22, ↓dv23, ↓dv24, ↓dv25, ↓dv26, ↓dv27, ↓dv28, ↓dv29, ↓dv30, ↓dv31, ↓dv32, ↓dv33, ↓dv34, ↓dv35, ↓dv36, ↓dv37, ↓dv38, ↓dv39, ↓nm0, ↓nm1, ↓nm2, ↓nm3, ↓nm4, ↓nm5, ↓nm6, ↓nm7, ↓nm8, ↓nm9, ↓nm10, ↓nm11, ↓nm12, ↓nm13, ↓nm14, ↓nm15, ↓nm16, ↓nm17, ↓nm18, ↓nm19, ↓nm20, ↓nm21, ↓nm22, ↓nm23, ↓nm24, ↓nm25, ↓nm26, ↓nm27, ↓nm28, ↓nm29, ↓nm30, ↓nm31, ↓nm32, ↓nm33, ↓nm34, ↓nm35, ↓nm36, ↓nm37, ↓nm38, ↓nm39, ↓sPar_n, ↓sPar3_n, ↓sAug_n, ↓reduceIte, List.set_set, ↓sNext_e, ↓sSeq_e, ↓sBrk_e, ↓sCnt_e, ↓sDrop_e, ↓sRet_e, ↓sRetN_e, ↓sIf_e, ↓sAsg_e, ↓sRaise_e, ↓nmG_e, ↓tupG_e, ↓gsNil_e, ↓gsCons_e, ↓subG_e, ↓dC_e, ↓dOp_e, ↓dUn_e, ↓dChain_e, ↓bOf_e, ↓bAnd_e, ↓bOr_e, ↓bNot_e, ↓bYes_e, ↓dAnd_e, ↓dOr_e, ↓dNot_e, ↓dIf_e, ↓lNil_e, ↓lCons_e, ↓dLst_e, ↓dDic0_e, ↓dDic1_e, ↓dLenSetG_e, dIsB_b, dIsNB_b, dSD_e, ↓dLstO_e, ↓dTup_e, ↓dCB_e, ↓dCall_e, ↓dCallK_e, ↓oNone_e, ↓oSome_e, ↓dSl_e, ↓dBM_e, ↓dBM0_e, ↓dFz_e, ↓dFz2_e, ↓d2_e, ↓dLone_e, ↓lStar_e, ↓dCallA_e, ↓dMakeA_e, ↓dMakeV_e, ↓dMethA_e, ↓dCMethA_e, ↓dPropA_e, ↓dFld_e, ↓sFldS_e, ↓dFzI_e, ↓fzID_o, ↓dM1_e, ↓dM0_e, ↓dRev_e, ↓mSplit_s, ↓mUpper_s, ↓exStr, ↓exZ, ↓cStrI_i, ↓cIntS_s, ↓iStrD_e, ↓dEqF_s, ↓dNeF_s, ↓dEqF_i, ↓dNeF_i, ↓dSign_s, ↓sRaiseI_e, ↓dXFld_e, ↓mPop_e, ↓dAddO_l, ↓dAddO_o, ↓dMk0_e, ↓sKeep_e, ↓sTryH_e, ↓dCVal_e, ↓dConI_e, ↓cLen_s, ↓dIx_s, ↓dSlS_s, ↓dAdd_s, ↓cTup_l, ↓pkP_e, ↓pkS_e, ↓lstG_e, ↓asI_i, ↓iSeq_e, ↓iTupD_e, ↓iRg1_e, ↓iRg2_e, ↓iZipD_e, iZrD_e, ↓iEnumD_e, ↓sFor_e, ↓dLc_e, ↓finF_e, ↓finO_e, ↓fzD_l, ↓fzD_i, ↓fzD_o, ↓fzD2_o, ↓dSetO_e, ↓mAppend_e, ↓mClear_e, ↓mReverse_e, List.map_cons, List.map_nil, List.length_cons, List.length_nil, rep_0, rep_s, List.cons_append, List.nil_append, List.getElem?_cons_zero, List.getElem?_cons_succ, List.set_cons_zero, List.set_cons_succ, Nat.reduceAdd, Nat.reduceSub, Nat.zero_add, Nat.add_zero, ↓exSS, ↓exB, ↓exI, ↓ex1, ↓ex2, ↓ex3, ↓exI1, ↓exI2, ↓exT, ↓exC, ↓exAs, ↓dAdd_i, ↓dAddI_i, ↓dSubI_i, ↓dLRg_e, ↓dIsiT_e, ↓dLenSet_e, ↓bChain3_e, ↓dLRg2_e, ↓iRg3_e, ↓dLc2_e, ↓dSlT_t, dAddT_t, ↓dNewK_e, ↓dDis1_e, ↓sDkp_e, ↓dDGet_e, ↓dDGet2_e, ↓dLVals_e, ↓kD_ex_i, ↓dSS_e, ↓dST_e, ↓dSI_e, ↓lsG_e, ↓dMulI_i, ↓dNew_e, ↓sDct_e, ↓dMulO_l, ↓dLRgO_e, ↓dAdd_l, ↓dSub_i, ↓dMul_i, ↓dMul_l, ↓dMod_i, ↓dDiv_i, ↓dPow_i, ↓dLt_i, ↓dLe_i, ↓dGt_i, ↓dGe_i, ↓uNeg_i, ↓cMax2_i, ↓cMin2_i, ↓cAbs_i, ↓cInt_i, ↓cInt_b, ↓cLen_l, ↓cLen_q, ↓cLen_t, ↓cList_l, ↓cList_q, ↓cList_t, ↓cListO_l, ↓cListO_t, ↓dIx_l, ↓dIx_q, ↓dIx_t, ↓dIx_o', ↓exS, ↓exL, at_1, at_2, at_3, at_4, ix30, ix31, ix32, ↓dSlL_l, ↓dSlL_q, ↓asQ_l, ↓asL_l, at_0, ↓isi_non_int, ↓isi_non_bool, ↓isi_non_str, ↓isi_non_list, ↓isi_non_tuple, ↓isi_non_dict, ↓isi_bl_int, ↓isi_bl_bool, ↓isi_bl_str, ↓isi_bl_list, ↓isi_bl_tuple, ↓isi_bl_dict, ↓isi_int_int, ↓isi_int_bool, ↓isi_int_str, ↓isi_int_list, ↓isi_int_tuple, ↓isi_int_dict, ↓isi_str_int, ↓isi_str_bool, ↓isi_str_str, ↓isi_str_list, ↓isi_str_tuple, ↓isi_str_dict, ↓isi_lst_int, ↓isi_lst_bool, ↓isi_lst_str, ↓isi_lst_list, ↓isi_lst_tuple, ↓isi_lst_dict, ↓isi_sq_int, ↓isi_sq_bool, ↓isi_sq_str, ↓isi_sq_list, ↓isi_sq_tuple, ↓isi_sq_dict, ↓isi_tup_int, ↓isi_tup_bool, ↓isi_tup_str, ↓isi_tup_list, ↓isi_tup_tuple, ↓isi_tup_dict, ↓isi_dic_int, ↓isi_dic_bool, ↓isi_dic_str, ↓isi_dic_list, ↓isi_dic_tuple, ↓isi_dic_dict, if_true, if_false, Bool.not_true, Bool.not_false, true_and, and_true, reduceCtorEq, Bool.true_eq_false, Bool.false_eq_true, ite_true, ite_false, ↓exAny, ↓isLst_l, Int.toNat_natCast, Int.reduceToNat, dVar_e, sPar_e, sPar3_e, sAug_e])))
local macro_rules | `(tactic| walk_at "dls") => `(tactic| ((try simp only [gstart, gwipe, List.set_set, List.map_cons, List.map_nil, List.length_cons, List.length_nil, rep_0, rep_s, List.cons_append, List.nil_append, List.set_cons_zero, List.set_cons_succ, Nat.reduceAdd, Nat.reduceSub, Nat.zero_add, Nat.add_zero]); (try simp only [*, ↓dv0, ↓dv1, ↓dv2, ↓dv3, ↓dv4, ↓dv5, ↓dv6, ↓dv7, ↓dv8, ↓dv9, ↓dv10, ↓dv11, ↓dv12, ↓dv13, ↓dv14, ↓dv15, ↓dv16, ↓dv17, ↓dv18, ↓dv19, ↓dv20, ↓dv21, ↓dv22, ↓dv23, ↓dv24, ↓dv25, ↓dv26, ↓dv27, ↓dv28, ↓dv29, ↓dv30, ↓dv31, ↓dv32, ↓dv33, ↓dv34, ↓dv35, ↓dv36, ↓dv37, ↓dv38, ↓dv39, ↓nm0, ↓nm1, ↓nm2, ↓nm3, ↓nm4, ↓nm5, ↓nm6, ↓nm7, ↓nm8, ↓nm9, ↓nm10, ↓nm11, ↓nm12, ↓nm13, ↓nm14, ↓nm15, ↓nm16, ↓nm17, ↓nm18, ↓nm19, ↓nm20, ↓nm21, ↓nm22, ↓nm23, ↓nm24, ↓nm25, ↓nm26, ↓nm27, ↓nm28, ↓nm29, ↓nm30, ↓nm31, ↓nm32, ↓nm33, ↓nm34, ↓nm35, ↓nm36, ↓nm37, ↓nm38, ↓nm39, ↓sPar_n, ↓sPar3_n, ↓sAug_n, ↓reduceIte, List.set_set, ↓sNext_e, ↓sSeq_e, ↓sBrk_e, ↓sCnt_e, ↓sDrop_e, ↓sRet_e, ↓sRetN_e, ↓sIf_e, ↓sAsg_e, ↓sRaise_e, ↓nmG_e, ↓tupG_e, ↓gsNil_e, ↓gsCons_e, ↓subG_e, ↓dC_e, ↓dOp_e, ↓dUn_e, ↓dChain_e, ↓bOf_e, ↓bAnd_e, ↓bOr_e, ↓bNot_e, ↓bYes_e, ↓dAnd_e, ↓dOr_e, ↓dNot_e, ↓dIf_e, ↓lNil_e, ↓lCons_e, ↓dLst_e, ↓dDic0_e, ↓dDic1_e, ↓dLenSetG_e, dIsB_b, dIsNB_b, dSD_e, ↓dLstO_e, ↓dTup_e, ↓dCB_e, ↓dCall_e, ↓dCallK_e, ↓oNone_e, ↓oSome_e, ↓dSl_e, ↓dBM_e, ↓dBM0_e, ↓dFz_e, ↓dFz2_e, ↓d2_e, ↓dLone_e, ↓lStar_e, ↓dCallA_e, ↓dMakeA_e, ↓dMakeV_e, ↓dMethA_e, ↓dCMethA_e, ↓dPropA_e, ↓dFld_e, ↓sFldS_e, ↓dFzI_e, ↓fzID_o, ↓dM1_e, ↓dM0_e, ↓dRev_e, ↓mSplit_s, ↓mUpper_s, ↓exStr, ↓exZ, ↓cStrI_i, ↓cIntS_s, ↓iStrD_e, ↓dEqF_s, ↓dNeF_s, ↓dEqF_i, ↓dNeF_i, ↓dSign_s, ↓sRaiseI_e, ↓dXFld_e, ↓mPop_e, ↓dAddO_l, ↓dAddO_o, ↓dMk0_e, ↓sKeep_e, ↓sTryH_e, ↓dCVal_e, ↓dConI_e, ↓cLen_s, ↓dIx_s, ↓dSlS_s, ↓dAdd_s, ↓cTup_l, ↓pkP_e, ↓pkS_e, ↓lstG_e, ↓asI_i, ↓iSeq_e, ↓iTupD_e, ↓iRg1_e, ↓iRg2_e, ↓iZipD_e, iZrD_e, ↓iEnumD_e, ↓sFor_e, ↓dLc_e, ↓finF_e, ↓finO_e, ↓fzD_l, ↓fzD_i, ↓fzD_o, ↓fzD2_o, ↓dSetO_e, ↓mAppend_e, ↓mClear_e, ↓mReverse_e, List.map_cons, List.map_nil, List.length_cons, List.length_nil, rep_0, rep_s, List.cons_append, List.nil_append, List.getElem?_cons_zero, List.getElem?_cons_succ, List.set_cons_zero, List.set_cons_succ, Nat.reduceAdd, Nat.reduceSub, Nat.zero_add, Nat.add_zero, ↓exSS, ↓exB, ↓exI, ↓ex1, ↓ex2, ↓ex3, ↓exI1, ↓exI2, ↓exT, ↓exC, ↓exAs, ↓dAdd_i, ↓dAddI_i, ↓dSubI_i, ↓dLRg_e, ↓dIsiT_e, ↓dLenSet_e, ↓bChain3_e, ↓dLRg2_e, ↓iRg3_e, ↓dLc2_e, ↓dSlT_t, dAddT_t, ↓dNewK_e, ↓dDis1_e, ↓sDkp_e, ↓dDGet_e, ↓dDGet2_e, ↓dLVals_e, ↓kD_ex_i, ↓dSS_e, ↓dST_e, ↓dSI_e, ↓lsG_e, ↓dMulI_i, ↓dNew_e, ↓sDct_e, ↓dMulO_l, ↓dLRgO_e, ↓dAdd_l, ↓dSub_i, ↓dMul_i, ↓dMul_l, ↓dMod_i, ↓dDiv_i, ↓dPow_i, ↓dLt_i, ↓dLe_i, ↓dGt_i, ↓dGe_i, ↓uNeg_i, ↓cMax2_i, ↓cMin2_i, ↓cAbs_i, ↓cInt_i, ↓cInt_b, ↓cLen_l, ↓cLen_q, ↓cLen_t, ↓cList_l, ↓cList_q, ↓cList_t, ↓cListO_l, ↓cListO_t, ↓dIx_l, ↓dIx_q, ↓dIx_t, ↓dIx_o', ↓exS, ↓exL, at_1, at_2, at_3, at_4, ix30, ix31, ix32, ↓dSlL_l, ↓dSlL_q, ↓asQ_l, ↓asL_l, at_0, ↓isi_non_int, ↓isi_non_bool, ↓isi_non_str, ↓isi_non_list, ↓isi_non_tuple, ↓isi_non_dict, ↓isi_bl_int, ↓isi_bl_bool, ↓isi_bl_str, ↓isi_bl_list, ↓isi_bl_tuple, ↓isi_bl_dict, ↓isi_int_int, ↓isi_int_bool, ↓isi_int_str, ↓isi_int_list, ↓isi_int_tuple, ↓isi_int_dict, ↓isi_str_int, ↓isi_str_bool, ↓isi_str_str, ↓isi_str_list, ↓isi_str_tuple, ↓isi_str_dict, ↓isi_lst_int, ↓isi_lst_bool, ↓isi_lst_str, ↓isi_lst_list, ↓isi_lst_tuple, ↓isi_lst_dict, ↓isi_sq_int, ↓isi_sq_bool, ↓isi_sq_str, ↓isi_sq_list, ↓isi_sq_tuple, ↓isi_sq_dict, ↓isi_tup_int, ↓isi_tup_bool, ↓isi_tup_str, ↓isi_tup_list, ↓isi_tup_tuple, ↓isi_tup_dict, ↓isi_dic_int, ↓isi_dic_bool, ↓isi_dic_str, ↓isi_dic_list, ↓isi_dic_tuple, ↓isi_dic_dict, if_true, if_false, Bool.not_true, Bool.not_false, true_and, and_true, reduceCtorEq, Bool.true_eq_false, Bool.false_eq_true, ite_true, ite_false, ↓exAny, ↓isLst_l, Int.toNat_natCast, Int.reduceToNat, dVar_e, sPar_e, sPar3_e, sAug_e])))
--MK
theorem lc_fm {α : Type} {G : TGd} {C : TB} {Te : TD} {vs : List Nat} {Fin : List D → Sto → KD → Prop} {Γ : Gam} {S : Sto} {Φ : KD} (xs : List α) (f g : α → D) (p : α → Bool) (hl : xs.length ≤ sizeLine) (hs : ∀ x ∈ xs, ∀ (A : KD) (N : Sto → Prop), (p x = true → A S (g x)) → (p x = false → N S) → G (f x) (gwipe Γ vs) S fun Γ2 S2 => C Γ2 S2 (fun S3 k => if k = true then Te Γ2 S3 A (fun _ _ => False) else N S3) (fun _ _ => False)) (hd : Fin ((xs.filter p).map g) S Φ) : lcP (fun _ => some (xs.map f)) G C Te vs Fin Γ S Φ := by
  refine lc_l (fun i acc S' => S' = S ∧ acc = ((xs.take i).filter p).map g) (by rw [List.length_map]; exact hl) ⟨rfl, rfl⟩ (fun i acc S' hi hp => ?_) fun acc S' hp => ?_
  · obtain ⟨rfl, rfl⟩ := hp
    rw [List.length_map] at hi
    rw [List.getElem_map]
    refine hs xs[i] (List.getElem_mem hi) (fun S4 y => S4 = S' ∧ ((xs.take i).filter p).map g ++ [y] = ((xs.take (i + 1)).filter p).map g) (fun S4 => S4 = S' ∧ ((xs.take i).filter p).map g = ((xs.take (i + 1)).filter p).map g) (fun e => ⟨rfl, ?_⟩) (fun e => ⟨rfl, ?_⟩)
    · rw [List.take_add_one, List.getElem?_eq_getElem hi, List.filter_append, List.map_append, show (some xs[i]).toList = [xs[i]] from rfl, List.filter_cons_of_pos e]
      rfl
    · rw [List.take_add_one, List.getElem?_eq_getElem hi, List.filter_append, List.map_append, show (some xs[i]).toList = [xs[i]] from rfl, List.filter_cons_of_neg (by rw [e]; exact Bool.false_ne_true)]
      simp
  · obtain ⟨rfl, rfl⟩ := hp
    rw [List.length_map, List.take_length]
    exact hd
theorem shaped_ints (xs : List Int) : SeqAt.shaped (.list (xs.map PyData.int)) = true := by
  have h1 : ∀ xs : List Int, PyData.canLayAll0 (xs.map PyData.int) = true := fun xs => by
    induction xs with
    | nil => rw [List.map_nil, PyData.canLayAll0]
    | cons x xs ih => rw [List.map_cons, PyData.canLayAll0, PyData.canLay0, ih]; rfl
  have h2 : ∀ xs : List Int, PyData.depthAll (xs.map PyData.int) = 0 := fun xs => by
    induction xs with
    | nil => rw [List.map_nil, PyData.depthAll]
    | cons x xs ih => rw [List.map_cons, PyData.depthAll, PyData.depth, ih]; rfl
  unfold SeqAt.shaped
  rw [PyData.canLay0, h1, PyData.depth, h2]
  simp
theorem ne_ints {S : Sto} {Φ : KD} {b : Nat} {xs : List Int} (e : S[b]? = some (.lst (xs.map D.int))) (h : Φ S (.bl (!decide (xs = [])))) : dNe (.own b) (.lst []) S Φ := by
  refine ⟨.list (xs.map PyData.int), .list [], .own e (pyra_map PyR.int xs), .lst .nil, shaped_ints xs, by decide, ?_⟩
  cases xs with
  | nil => exact h
  | cons x xs => exact h
theorem Frm.refl {A : List Nat} {S : Sto} : Frm A S S := ⟨Nat.le_refl _, fun _ _ _ h => h⟩
theorem Frm.set {A : List Nat} {S S' : Sto} (f : Frm A S S') {i : Nat} (hi : i ∈ A) (c : Cell) : Frm A S (S'.set i c) := ⟨by rw [List.length_set]; exact f.len, fun j d hj e => by rw [List.getElem?_set_ne (fun z : i = j => hj (by rw [← z]; exact hi))]; exact f.get j d hj e⟩
theorem Frm.trans {A : List Nat} {S S' S'' : Sto} (f : Frm A S S') (g : Frm A S' S'') : Frm A S S'' := ⟨Nat.le_trans f.len g.len, fun j d hj e => g.get j d hj (f.get j d hj e)⟩
theorem Frm.app {A : List Nat} {S S' : Sto} (f : Frm A S S') (Z : Sto) : Frm A S (S' ++ Z) := ⟨by rw [List.length_append]; have := f.len; omega, fun j d hj e => get_app (f.get j d hj e)⟩
theorem Nd.app {S : Sto} {h b n : Nat} (d : Nd S h b n) (Z : Sto) : Nd (S ++ Z) h b n := by
  obtain ⟨⟨m, k, e, r⟩, ⟨xs, e2, r2⟩, ne⟩ := d
  exact ⟨⟨m, k, get_app e, r⟩, ⟨xs, get_app e2, r2⟩, ne⟩
theorem Nd.more {S : Sto} {h b n n' : Nat} (d : Nd S h b n) (hn : n ≤ n') : Nd S h b n' := by
  obtain ⟨⟨m, k, e, r1, r2, r3, r4⟩, l, ne⟩ := d
  exact ⟨⟨m, k, e, r1, r2, r3, by omega⟩, l, ne⟩
theorem Nd.hlt {S : Sto} {h b n : Nat} (d : Nd S h b n) : h < S.length := by obtain ⟨⟨m, k, e, _⟩, _, _⟩ := d; exact (List.getElem?_eq_some_iff.mp e).1
theorem Nd.blt {S : Sto} {h b n : Nat} (d : Nd S h b n) : b < S.length := by obtain ⟨_, ⟨xs, e, _⟩, _⟩ := d; exact (List.getElem?_eq_some_iff.mp e).1
theorem Nd.setb {S : Sto} {h b n : Nat} (d : Nd S h b n) {ys : List Int} (h0 : ∀ y ∈ ys, 0 ≤ y) (hl : ys.length ≤ 40) : Nd (S.set b (.lst (ys.map D.int))) h b n := by
  have hb := d.blt
  obtain ⟨⟨m, k, e, r⟩, l, ne⟩ := d
  exact ⟨⟨m, k, by rw [List.getElem?_set_ne ne]; exact e, r⟩, ⟨ys, List.getElem?_set_self hb, h0, hl⟩, ne⟩
theorem Nd.seth {S : Sto} {h b n n' : Nat} (d : Nd S h b n) {m k : Int} (m0 : 0 ≤ m) (m1 : m < 2 ^ 127) (k0 : 0 ≤ k) (k1 : k ≤ n') : Nd (S.set h (.lst [.own b, .int m, .int k])) h b n' := by
  have hh := d.hlt
  obtain ⟨_, ⟨xs, e, r⟩, ne⟩ := d
  exact ⟨⟨m, k, List.getElem?_set_self hh, m0, m1, k0, k1⟩, ⟨xs, by rw [List.getElem?_set_ne (fun z => ne z.symm)]; exact e, r⟩, ne⟩
theorem ints_inj : ∀ {xs ys : List Int}, xs.map D.int = ys.map D.int → xs = ys
  | [], [], _ => rfl
  | [], _ :: _, h => by simp at h
  | _ :: _, [], h => by simp at h
  | x :: xs, y :: ys, h => by
    rw [List.map_cons, List.map_cons] at h
    injection h with h1 h2
    injection h1 with h1
    rw [h1, ints_inj h2]
theorem p__law_source : Rets sp__law_source T__law_source N__law_source := by
  rintro _ S Φ Ψ ⟨ns, rfl, q⟩
  unfold T__law_source
  walk_at "dl"
  refine ⟨cpw (by decide) (by decide) (by decide), ?_⟩
  have ec : cutD (ns.map D.int) none (some (40 : Int)) = (ns.take 40).map D.int := (cut_to (j := 40)).trans (List.map_take ..).symm
  rw [ec]
  have hl : (ns.take 40).length ≤ 40 := by rw [List.length_take]; omega
  refine for_l (ds := (ns.take 40).map D.int) (fun i Γ S' => ∃ mx o2, Γ = [some (.sq (ns.map D.int)), some (.int mx), o2] ∧ S' = S ∧ 0 ≤ mx ∧ mx < 2 ^ 127) ⟨_, _, rfl, rfl, by decide, by decide⟩ (fun i Γ S' hi hp => ?_) fun Γ S' hp => ?_
  · obtain ⟨mx, o2, rfl, rfl, m0, m1⟩ := hp
    rw [List.length_map] at hi
    rw [List.getElem_map]
    walk_at "dl"
    refine ⟨.inr (wide_mul (a := 127) (b := 64) (by omega) (by decide) (by decide) (by decide) (by decide)), by decide, _, _, rfl, Int.emod_nonneg _ (by decide), ?_⟩
    exact Int.lt_trans (Int.emod_lt_of_pos _ (by decide)) (by decide)
  · obtain ⟨mx, o2, rfl, rfl, m0, m1⟩ := hp
    walk_at "dl"
    rw [ec]
    refine lc_fm (ns.take 40) D.int (fun x => .int (x.natAbs : Nat)) (fun x => decide (10 ^ 18 ≤ (x.natAbs : Int))) (small (by omega)) (fun x hx A N hA hN => ?_) ?_
    · walk_at "dl"
      have ea : (if x < 0 then -x else x) = (x.natAbs : Int) := by split <;> omega
      rw [ea]
      refine ⟨cpw (by decide) (by decide) (by decide), ?_⟩
      by_cases c : (10 : Int) ^ 18 ≤ (x.natAbs : Int)
      · rw [if_pos (decide_eq_true c)]
        exact hA (decide_eq_true c)
      · rw [if_neg (by rw [decide_eq_true_eq]; exact c)]
        exact hN (decide_eq_false c)
    · walk_at "dl"
      refine ⟨small (by decide), ret_now ?_⟩
      have el : (S' ++ [Cell.lst (((ns.take 40).filter fun x => decide (10 ^ 18 ≤ (x.natAbs : Int))).map fun x => D.int (x.natAbs : Nat))]).length = S'.length + 1 := by rw [List.length_append]; rfl
      rw [el]
      refine q _ ⟨⟨mx, 0, ?_, m0, m1, by decide, by decide⟩, ⟨((ns.take 40).filter fun x => decide (10 ^ 18 ≤ (x.natAbs : Int))).map fun x => (x.natAbs : Int), ?_, ?_, ?_⟩, by omega⟩
      · rw [← el]; exact get_at
      · rw [List.map_map]; exact get_app get_at
      · intro x hx
        obtain ⟨y, _, rfl⟩ := List.mem_map.mp hx
        omega
      · rw [List.length_map]
        exact Nat.le_trans (List.length_filter_le _ _) hl
theorem p__law_pick : Rets sp__law_pick T__law_pick N__law_pick := by
  rintro _ S Φ Ψ ⟨h, b, n, m, rfl, nd, hn, hm, hm2, q⟩
  unfold T__law_pick
  walk_at "dl"
  rw [sWhile_e]
  refine ⟨fun k Γ S' => Γ = [some (.own h), some (.int m), none, none] ∧ Nd S' h b n ∧ Frm [h, b] S S' ∧ S'.length = S.length ∧ ∃ xs : List Int, S'[b]? = some (.lst (xs.map D.int)) ∧ k = xs.length, ?_, ?_⟩
  · obtain ⟨_, ⟨xs, e, _⟩, _⟩ := id nd
    exact ⟨_, rfl, nd, Frm.refl, rfl, xs, e, rfl⟩
  rintro k Γ' S' ⟨rfl, nd', fr, hlen, xs, eb, rfl⟩
  obtain ⟨⟨mx, kk, eh, m0, m1, k0, k1⟩, ⟨xs', eb', x0, xl⟩, ne⟩ := id nd'
  have : xs'.map D.int = xs.map D.int := by rw [eb] at eb'; injection eb' with e; injection e with e; exact e.symm
  have := ints_inj this
  subst this
  have hh := nd'.hlt
  have hb := nd'.blt
  walk_at "dl"
  refine ⟨_, eh, _, rfl, small (Nat.zero_le _), ne_ints eb ⟨_, rfl, ?_⟩⟩
  cases xs' with
  | nil =>
    rw [if_neg (by decide)]
    refine ⟨_, eh, _, rfl, small (Nat.zero_le _), ne_ints eb ⟨_, rfl, ?_⟩⟩
    rw [if_neg (by decide)]
    refine ⟨_, eh, _, rfl, ?_⟩
    walk_at "dl"
    refine ⟨_, eh, 2, rfl, ?_⟩
    have e1 : (S'.set h (.lst ([D.own b, .int mx, .int kk].set 2 (.int (kk + 1)))))[h]? = some (.lst [D.own b, .int mx, .int (kk + 1)]) := List.getElem?_set_self hh
    refine ⟨_, e1, _, rfl, _, e1, _, rfl, ?_⟩
    walk_at "dl"
    refine ⟨.inr (wide_mul (a := 127) (b := 127) (by omega) (by omega) (by decide) (by decide) (by decide)), _, e1, _, rfl, ?_⟩
    walk_at "dl"
    refine ⟨cml (by decide) (by decide), _, e1, _, rfl, ?_⟩
    walk_at "dl"
    refine ⟨.inr (wide_mul (a := 120) (b := 101) (by omega) (by omega) (by decide) (by decide) (by decide)), _, e1, _, rfl, ?_⟩
    walk_at "dl"
    refine ⟨cml (by decide) (by decide), by decide, _, e1, 1, rfl, ?_⟩
    have r0 := Int.emod_nonneg (mx * mx + 52711 * (kk + 1) * (kk + 1) + 23 * (kk + 1)) (show (170141183460469231731687303715884105727 : Int) ≠ 0 by decide)
    have r1 := Int.emod_lt_of_pos (mx * mx + 52711 * (kk + 1) * (kk + 1) + 23 * (kk + 1)) (show (0 : Int) < 170141183460469231731687303715884105727 by decide)
    generalize (mx * mx + 52711 * (kk + 1) * (kk + 1) + 23 * (kk + 1)) % 170141183460469231731687303715884105727 = nx at *
    have e2 : (S'.set h (.lst ([D.own b, .int mx, .int (kk + 1)].set 1 (.int nx))))[h]? = some (.lst [D.own b, .int nx, .int (kk + 1)]) := List.getElem?_set_self hh
    refine ⟨_, e2, _, rfl, cpw (by decide) (by decide) (by decide), ?_⟩
    walk_at "dl"
    refine ⟨cdw (by decide) (by decide), hm, ret_now (q _ _ (nd'.seth (n' := n + 1) r0 (Int.lt_trans r1 (by decide)) (by omega) (by omega)) (fr.set (by simp) _) (by rw [List.length_set]; exact hlen) (Int.emod_nonneg _ (by omega)) (Int.emod_lt_of_pos _ hm))⟩
  | cons x ys =>
    have hcn : (!decide (x :: ys = [])) = true := by simp
    rw [if_pos hcn]
    have x00 := x0 x List.mem_cons_self
    refine ⟨_, eh, _, rfl, ?_⟩
    rw [dIx_L (asL_at' eb)]
    have at_zero : atI ((x :: ys).map D.int) 0 = some (.int x) := at_nat (n := 0)
    refine ⟨_, at_zero, ?_⟩
    walk_at "dl"
    by_cases h2 : x < 2
    · rw [if_pos (decide_eq_true h2)]
      refine ⟨_, eh, _, rfl, isLst_at eb, b, _, 0, 0, .int x, rfl, rfl, eb, by decide, by decide, by unfold seqIndex?; simp, rfl, ?_⟩
      refine ⟨ys.length, by simp, nd'.setb (fun y hy => x0 y (List.mem_cons_of_mem _ hy)) (by simp at xl; omega), fr.set (by simp) _, by rw [List.length_set]; exact hlen, ys, List.getElem?_set_self hb, rfl⟩
    · rw [if_neg (by rw [decide_eq_true_eq]; exact h2)]
      refine ⟨_, eh, _, rfl, small (Nat.zero_le _), ne_ints eb ⟨_, rfl, ?_⟩⟩
      rw [if_pos hcn]
      refine ⟨_, eh, _, rfl, ?_⟩
      rw [dIx_L (asL_at' eb)]
      refine ⟨_, at_zero, ?_⟩
      walk_at "dl"
      refine ⟨hm, _, eh, _, rfl, ?_⟩
      rw [dIx_L (asL_at' eb)]
      refine ⟨_, at_zero, ?_⟩
      walk_at "dl"
      refine ⟨wide_div (b := 500) hm (by omega) (by decide) (by decide), _, eh, _, rfl, ?_⟩
      rw [dSetO_e]
      refine ⟨_, eb, 0, by unfold ixN; simp, ?_⟩
      have es : ((x :: ys).map D.int).set 0 (.int (x / m)) = (x / m :: ys).map D.int := rfl
      rw [es]
      exact ret_now (q _ _ ((nd'.setb (ys := x / m :: ys) (fun y hy => by
        rcases List.mem_cons.mp hy with rfl | hy
        · exact Int.ediv_nonneg x00 (by omega)
        · exact x0 y (List.mem_cons_of_mem _ hy)) xl).more (by omega)) (fr.set (by simp) _) (by rw [List.length_set]; exact hlen) (Int.emod_nonneg _ (by omega)) (Int.emod_lt_of_pos _ hm))
end DL
namespace DL
open PySem PySem.Spec PyProof.Rows L2
local macro_rules | `(tactic| walk_at "dl") => `(tactic| ((try simp only [gstart, gwipe, List.set_set, List.map_cons, List.map_nil, List.length_cons, List.length_nil, rep_0, rep_s, List.cons_append, List.nil_append, List.set_cons_zero, List.set_cons_succ, Nat.reduceAdd, Nat.reduceSub, Nat.zero_add, Nat.add_zero]); (try simp only [↓dv0, ↓dv1, ↓dv2, ↓dv3, ↓dv4, ↓dv5, ↓dv6, ↓dv7, ↓dv8, ↓dv9, ↓dv10, ↓dv11, ↓dv12, ↓dv13, ↓dv14, ↓dv15, ↓dv16, ↓dv17, ↓dv18, ↓dv19, ↓dv20, ↓dv21, ↓dv22, ↓dv23, ↓dv24, ↓dv25, ↓dv26, ↓dv27, ↓dv28, ↓dv29, ↓dv30, ↓dv31, ↓dv32, ↓dv33, ↓dv34, ↓dv35, ↓dv36, ↓dv37, ↓dv38, ↓dv39, ↓nm0, ↓nm1, ↓nm2, ↓nm3, ↓nm4, ↓nm5, ↓nm6, ↓nm7, ↓nm8, ↓nm9, ↓nm10, ↓nm11, ↓nm12, ↓nm13, ↓nm14, ↓nm15, ↓nm16, ↓nm17, ↓nm18, ↓nm19, ↓nm20, ↓nm21, ↓nm22, ↓nm23, ↓nm24, ↓nm25, ↓nm26, ↓nm27, ↓nm28, ↓nm29, ↓nm30, ↓nm31, ↓nm32, ↓nm33, ↓nm34, ↓nm35, ↓nm36, ↓nm37, ↓nm38, ↓nm39, ↓sPar_n, ↓sPar3_n, ↓sAug_n, ↓reduceIte, List.set_set, ↓sNext_e, ↓sSeq_e, ↓sBrk_e, ↓sCnt_e, ↓sDrop_e, ↓sRet_e, ↓sRetN_e, ↓sIf_e, ↓sAsg_e, ↓sRaise_e, ↓nmG_e, ↓tupG_e, ↓gsNil_e, ↓gsCons_e, ↓subG_e, ↓dC_e, ↓dOp_e, ↓dUn_e, ↓dChain_e, ↓bOf_e, ↓bAnd_e, ↓bOr_e, ↓bNot_e, ↓bYes_e, ↓dAnd_e, ↓dOr_e, ↓dNot_e, ↓dIf_e, ↓lNil_e, ↓lCons_e, ↓dLst_e, ↓dDic0_e, ↓dDic1_e, ↓dLenSetG_e, dIsB_b, dIsNB_b, dSD_e, ↓dLstO_e, ↓dTup_e, ↓dCB_e, ↓dCall_e, ↓dCallK_e, ↓oNone_e, ↓oSome_e, ↓dSl_e, ↓dBM_e, ↓dBM0_e, ↓dFz_e, ↓dFz2_e, ↓d2_e, ↓dLone_e, ↓lStar_e, ↓dCallA_e, ↓dMakeA_e, ↓dMakeV_e, ↓dMethA_e, ↓dCMethA_e, ↓dPropA_e, ↓dFld_e, ↓sFldS_e, ↓dFzI_e, ↓fzID_o, ↓dM1_e, ↓dM0_e, ↓dRev_e, ↓mSplit_s, ↓mUpper_s, ↓exStr, ↓exZ, ↓cStrI_i, ↓cIntS_s, ↓iStrD_e, ↓dEqF_s, ↓dNeF_s, ↓dEqF_i, ↓dNeF_i, ↓dSign_s, ↓sRaiseI_e, ↓dXFld_e, ↓mPop_e, ↓dAddO_l, ↓dAddO_o, ↓dMk0_e, ↓sKeep_e, ↓sTryH_e, ↓dCVal_e, ↓dConI_e, ↓cLen_s, ↓dIx_s, ↓dSlS_s, ↓dAdd_s, ↓cTup_l, ↓pkP_e, ↓pkS_e, ↓lstG_e, ↓asI_i, ↓iSeq_e, ↓iTupD_e, ↓iRg1_e, ↓iRg2_e, ↓iZipD_e, iZrD_e, ↓iEnumD_e, ↓sFor_e, ↓dLc_e, ↓finF_e, ↓finO_e, ↓fzD_l, ↓fzD_i, ↓fzD_o, ↓fzD2_o, ↓dSetO_e, ↓mAppend_e, ↓mClear_e, ↓mReverse_e, List.map_cons, List.map_nil, List.length_cons, List.length_nil, rep_0, rep_s, List.cons_append, List.nil_append, List.getElem?_cons_zero, List.getElem?_cons_succ, List.set_cons_zero, List.set_cons_succ, Nat.reduceAdd, Nat.reduceSub, Nat.zero_add, Nat.add_zero, ↓exSS, ↓exB, ↓exI, ↓ex1, ↓ex2, ↓ex3, ↓exI1, ↓exI2, ↓exT, ↓exC, ↓exAs, ↓dAdd_i, ↓dAddI_i, ↓dSubI_i, ↓dLRg_e, ↓dIsiT_e, ↓dLenSet_e, ↓bChain3_e, ↓dLRg2_e, ↓iRg3_e, ↓dLc2_e, ↓dSlT_t, dAddT_t, ↓dNewK_e, ↓dDis1_e, ↓sDkp_e, ↓dDGet_e, ↓dDGet2_e, ↓dLVals_e, ↓kD_ex_i, ↓dSS_e, ↓dST_e, ↓dSI_e, ↓lsG_e, ↓dMulI_i, ↓dNew_e, ↓sDct_e, ↓dMulO_l, ↓dLRgO_e, ↓dAdd_l, ↓dSub_i, ↓dMul_i, ↓dMul_l, ↓dMod_i, ↓dDiv_i, ↓dPow_i, ↓dLt_i, ↓dLe_i, ↓dGt_i, ↓dGe_i, ↓uNeg_i, ↓cMax2_i, ↓cMin2_i, ↓cAbs_i, ↓cInt_i, ↓cInt_b, ↓cLen_l, ↓cLen_q, ↓cLen_t, ↓cList_l, ↓cList_q, ↓cList_t, ↓cListO_l, ↓cListO_t, ↓dIx_l, ↓dIx_q, ↓dIx_t, ↓dIx_o', ↓exS, ↓exL, at_1, at_2, at_3, at_4, ix30, ix31, ix32, ↓dSlL_l, ↓dSlL_q, ↓asQ_l, ↓asL_l, at_0, ↓isi_non_int, ↓isi_non_bool, ↓isi_non_str, ↓isi_non_list, ↓isi_non_tuple, ↓isi_non_dict, ↓isi_bl_int, ↓isi_bl_bool, ↓isi_bl_str, ↓isi_bl_list, ↓isi_bl_tuple, ↓isi_bl_dict, ↓isi_int_int, ↓isi_int_bool, ↓isi_int_str, ↓isi_int_list, ↓isi_int_tuple, ↓isi_int_dict, ↓isi_str_int, ↓isi_str_bool, ↓isi_str_str, ↓isi_str_list, ↓isi_str_tuple, ↓isi_str_dict, ↓isi_lst_int, ↓isi_lst_bool, ↓isi_lst_str, ↓isi_lst_list, ↓isi_lst_tuple, ↓isi_lst_dict, ↓isi_sq_int, ↓isi_sq_bool, ↓isi_sq_str, ↓isi_sq_list, ↓isi_sq_tuple, ↓isi_sq_dict, ↓isi_tup_int, ↓isi_tup_bool, ↓isi_tup_str, ↓isi_tup_list, ↓isi_tup_tuple, ↓isi_tup_dict, ↓isi_dic_int, ↓isi_dic_bool, ↓isi_dic_str, ↓isi_dic_list, ↓isi_dic_tuple, ↓isi_dic_dict, if_true, if_false, Bool.not_true, Bool.not_false, true_and, and_true, reduceCtorEq, Bool.true_eq_false, Bool.false_eq_true, ite_true, ite_false, ↓exAny, ↓isLst_l, Int.toNat_natCast, Int.reduceToNat, dVar_e, sPar_e, sPar3_e, sAug_e])))
local macro_rules | `(tactic| walk_at "dls") => `(tactic| ((try simp only [gstart, gwipe, List.set_set, List.map_cons, List.map_nil, List.length_cons, List.length_nil, rep_0, rep_s, List.cons_append, List.nil_append, List.set_cons_zero, List.set_cons_succ, Nat.reduceAdd, Nat.reduceSub, Nat.zero_add, Nat.add_zero]); (try simp only [*, ↓dv0, ↓dv1, ↓dv2, ↓dv3, ↓dv4, ↓dv5, ↓dv6, ↓dv7, ↓dv8, ↓dv9, ↓dv10, ↓dv11, ↓dv12, ↓dv13, ↓dv14, ↓dv15, ↓dv16, ↓dv17, ↓dv18, ↓dv19, ↓dv20, ↓dv21, ↓dv22, ↓dv23, ↓dv24, ↓dv25, ↓dv26, ↓dv27, ↓dv28, ↓dv29, ↓dv30, ↓dv31, ↓dv32, ↓dv33, ↓dv34, ↓dv35, ↓dv36, ↓dv37, ↓dv38, ↓dv39, ↓nm0, ↓nm1, ↓nm2, ↓nm3, ↓nm4, ↓nm5, ↓nm6, ↓nm7, ↓nm8, ↓nm9, ↓nm10, ↓nm11, ↓nm12, ↓nm13, ↓nm14, ↓nm15, ↓nm16, ↓nm17, ↓nm18, ↓nm19, ↓nm20, ↓nm21, ↓nm22, ↓nm23, ↓nm24, ↓nm25, ↓nm26, ↓nm27, ↓nm28, ↓nm29, ↓nm30, ↓nm31, ↓nm32, ↓nm33, ↓nm34, ↓nm35, ↓nm36, ↓nm37, ↓nm38, ↓nm39, ↓sPar_n, ↓sPar3_n, ↓sAug_n, ↓reduceIte, List.set_set, ↓sNext_e, ↓sSeq_e, ↓sBrk_e, ↓sCnt_e, ↓sDrop_e, ↓sRet_e, ↓sRetN_e, ↓sIf_e, ↓sAsg_e, ↓sRaise_e, ↓nmG_e, ↓tupG_e, ↓gsNil_e, ↓gsCons_e, ↓subG_e, ↓dC_e, ↓dOp_e, ↓dUn_e, ↓dChain_e, ↓bOf_e, ↓bAnd_e, ↓bOr_e, ↓bNot_e, ↓bYes_e, ↓dAnd_e, ↓dOr_e, ↓dNot_e, ↓dIf_e, ↓lNil_e, ↓lCons_e, ↓dLst_e, ↓dDic0_e, ↓dDic1_e, ↓dLenSetG_e, dIsB_b, dIsNB_b, dSD_e, ↓dLstO_e, ↓dTup_e, ↓dCB_e, ↓dCall_e, ↓dCallK_e, ↓oNone_e, ↓oSome_e, ↓dSl_e, ↓dBM_e, ↓dBM0_e, ↓dFz_e, ↓dFz2_e, ↓d2_e, ↓dLone_e, ↓lStar_e, ↓dCallA_e, ↓dMakeA_e, ↓dMakeV_e, ↓dMethA_e, ↓dCMethA_e, ↓dPropA_e, ↓dFld_e, ↓sFldS_e, ↓dFzI_e, ↓fzID_o, ↓dM1_e, ↓dM0_e, ↓dRev_e, ↓mSplit_s, ↓mUpper_s, ↓exStr, ↓exZ, ↓cStrI_i, ↓cIntS_s, ↓iStrD_e, ↓dEqF_s, ↓dNeF_s, ↓dEqF_i, ↓dNeF_i, ↓dSign_s, ↓sRaiseI_e, ↓dXFld_e, ↓mPop_e, ↓dAddO_l, ↓dAddO_o, ↓dMk0_e, ↓sKeep_e, ↓sTryH_e, ↓dCVal_e, ↓dConI_e, ↓cLen_s, ↓dIx_s, ↓dSlS_s, ↓dAdd_s, ↓cTup_l, ↓pkP_e, ↓pkS_e, ↓lstG_e, ↓asI_i, ↓iSeq_e, ↓iTupD_e, ↓iRg1_e, ↓iRg2_e, ↓iZipD_e, iZrD_e, ↓iEnumD_e, ↓sFor_e, ↓dLc_e, ↓finF_e, ↓finO_e, ↓fzD_l, ↓fzD_i, ↓fzD_o, ↓fzD2_o, ↓dSetO_e, ↓mAppend_e, ↓mClear_e, ↓mReverse_e, List.map_cons, List.map_nil, List.length_cons, List.length_nil, rep_0, rep_s, List.cons_append, List.nil_append, List.getElem?_cons_zero, List.getElem?_cons_succ, List.set_cons_zero, List.set_cons_succ, Nat.reduceAdd, Nat.reduceSub, Nat.zero_add, Nat.add_zero, ↓exSS, ↓exB, ↓exI, ↓ex1, ↓ex2, ↓ex3, ↓exI1, ↓exI2, ↓exT, ↓exC, ↓exAs, ↓dAdd_i, ↓dAddI_i, ↓dSubI_i, ↓dLRg_e, ↓dIsiT_e, ↓dLenSet_e, ↓bChain3_e, ↓dLRg2_e, ↓iRg3_e, ↓dLc2_e, ↓dSlT_t, dAddT_t, ↓dNewK_e, ↓dDis1_e, ↓sDkp_e, ↓dDGet_e, ↓dDGet2_e, ↓dLVals_e, ↓kD_ex_i, ↓dSS_e, ↓dST_e, ↓dSI_e, ↓lsG_e, ↓dMulI_i, ↓dNew_e, ↓sDct_e, ↓dMulO_l, ↓dLRgO_e, ↓dAdd_l, ↓dSub_i, ↓dMul_i, ↓dMul_l, ↓dMod_i, ↓dDiv_i, ↓dPow_i, ↓dLt_i, ↓dLe_i, ↓dGt_i, ↓dGe_i, ↓uNeg_i, ↓cMax2_i, ↓cMin2_i, ↓cAbs_i, ↓cInt_i, ↓cInt_b, ↓cLen_l, ↓cLen_q, ↓cLen_t, ↓cList_l, ↓cList_q, ↓cList_t, ↓cListO_l, ↓cListO_t, ↓dIx_l, ↓dIx_q, ↓dIx_t, ↓dIx_o', ↓exS, ↓exL, at_1, at_2, at_3, at_4, ix30, ix31, ix32, ↓dSlL_l, ↓dSlL_q, ↓asQ_l, ↓asL_l, at_0, ↓isi_non_int, ↓isi_non_bool, ↓isi_non_str, ↓isi_non_list, ↓isi_non_tuple, ↓isi_non_dict, ↓isi_bl_int, ↓isi_bl_bool, ↓isi_bl_str, ↓isi_bl_list, ↓isi_bl_tuple, ↓isi_bl_dict, ↓isi_int_int, ↓isi_int_bool, ↓isi_int_str, ↓isi_int_list, ↓isi_int_tuple, ↓isi_int_dict, ↓isi_str_int, ↓isi_str_bool, ↓isi_str_str, ↓isi_str_list, ↓isi_str_tuple, ↓isi_str_dict, ↓isi_lst_int, ↓isi_lst_bool, ↓isi_lst_str, ↓isi_lst_list, ↓isi_lst_tuple, ↓isi_lst_dict, ↓isi_sq_int, ↓isi_sq_bool, ↓isi_sq_str, ↓isi_sq_list, ↓isi_sq_tuple, ↓isi_sq_dict, ↓isi_tup_int, ↓isi_tup_bool, ↓isi_tup_str, ↓isi_tup_list, ↓isi_tup_tuple, ↓isi_tup_dict, ↓isi_dic_int, ↓isi_dic_bool, ↓isi_dic_str, ↓isi_dic_list, ↓isi_dic_tuple, ↓isi_dic_dict, if_true, if_false, Bool.not_true, Bool.not_false, true_and, and_true, reduceCtorEq, Bool.true_eq_false, Bool.false_eq_true, ite_true, ite_false, ↓exAny, ↓isLst_l, Int.toNat_natCast, Int.reduceToNat, dVar_e, sPar_e, sPar3_e, sAug_e])))
--MK
theorem Frm.h {S S' : Sto} {h b i : Nat} {c : Cell} (f : Frm [h, b] S S') (e : S[i]? = some c) (h1 : i ≠ h) (h2 : i ≠ b) : S'[i]? = some c := f.get i c (by simp [h1, h2]) e
theorem ixl {ds : List D} {i : Int} {S : Sto} {R : KD} {y : D} (e : atI ds i = some y) (h : R S y) : dIx (.lst ds) (.int i) S R := by rw [dIx_L rfl]; exact ⟨y, e, h⟩
theorem p__law_look : Rets sp__law_look T__law_look N__law_look := by
  rintro _ S Φ Ψ ⟨h, b, n, w, rfl, nd, hn, hw, hw2, q⟩
  unfold T__law_look
  walk_at "dl"
  refine ⟨h, b, n, 3, rfl, nd, by omega, by decide, by decide, fun S1 v1 nd1 f1 len1 a1 b1 => ?_⟩
  refine ⟨h, b, n + 1, w + 1, rfl, nd1, by omega, by omega, by omega, fun S2 v2 nd2 f2 len2 a2 b2 => ⟨small (by decide), ?_⟩⟩
  refine ⟨h, b, n + 1 + 1, 3, rfl, nd2, by omega, by decide, by decide, fun S3 v3 nd3 f3 len3 a3 b3 => ?_⟩
  have fin : ∀ l : Int, 0 ≤ l → l ≤ w → RetOk S Φ S3 (.tup [.int v1, .int l]) := fun l l0 l1 => ret_now (q S3 v1 l nd3 (f1.trans (f2.trans f3)) a1 (by omega) l0 l1)
  have hv : v3 = 0 ∨ v3 = 1 ∨ v3 = 2 := by omega
  rcases hv with rfl | rfl | rfl
  · exact ixl (y := .int 0) rfl ⟨small (by decide), fin 0 (by omega) (by omega)⟩
  · exact ixl (y := .int 0) rfl ⟨small (by decide), fin 0 (by omega) (by omega)⟩
  · exact ixl (y := .int v2) rfl ⟨small (by decide), fin v2 (by omega) (by omega)⟩
theorem p__law_named (C : Addr) : Rets (sp__law_named C) (T__law_named C) N__law_named := by
  rintro _ S Φ Ψ ⟨h, b, n, g, l, rfl, nd, hn, g0, g1, l0, l1, q⟩
  unfold T__law_named
  walk_at "dl"
  refine ⟨small (by decide), small (by decide), small (by decide), small (by decide), h, b, n, 3, rfl, nd, by omega, by decide, by decide, fun S1 v nd1 f1 len1 a1 b1 => ?_⟩
  have fin : ∀ (ks : List Str), 1 ≤ ks.length → ks.length ≤ 12 → (∀ k ∈ ks, k ∈ kindsL) → sp_Style_of C [.obj C, .lst (ks.map D.str), .int g, .int l] S1 (RetOk S Φ) (ErOk S Ψ) := fun ks h1 h2 h3 => ⟨ks, g, l, rfl, ⟨h1, h2, h3, g0, g1, l0, l1⟩, ret_now (q S1 ks nd1 ⟨h1, h2, h3, g0, g1, l0, l1⟩)⟩
  have hv : v = 0 ∨ v = 1 ∨ v = 2 := by omega
  rcases hv with rfl | rfl | rfl
  · exact ixl (y := .lst ((["left"] : List Str).map D.str)) rfl (fin ["left"] (by decide) (by decide) (by decide))
  · exact ixl (y := .lst ((["right", "center"] : List Str).map D.str)) rfl (fin ["right", "center"] (by decide) (by decide) (by decide))
  · exact ixl (y := .lst ((["center", "left", "right"] : List Str).map D.str)) rfl (fin ["center", "left", "right"] (by decide) (by decide) (by decide))
theorem Nd.setx {S : Sto} {h b n i : Nat} (d : Nd S h b n) (h1 : i ≠ h) (h2 : i ≠ b) (c : Cell) : Nd (S.set i c) h b n := by
  obtain ⟨⟨m, k, e, r⟩, ⟨xs, e2, r2⟩, ne⟩ := d
  exact ⟨⟨m, k, by rw [List.getElem?_set_ne h1]; exact e, r⟩, ⟨xs, by rw [List.getElem?_set_ne h2]; exact e2, r2⟩, ne⟩
theorem p__law_grid : Rets sp__law_grid T__law_grid N__law_grid := by
  rintro _ S Φ Ψ ⟨h, b, n, R, K, w, rfl, nd, hn, R0, R1, K0, K1, w0, w1, q⟩
  unfold T__law_grid
  walk_at "dl"
  have hh := nd.hlt
  have hb := nd.blt
  refine ⟨small (Nat.zero_le _), h, b, n, R, rfl, nd.app _, by omega, by omega, by omega, fun S1 v nd1 f1 len1 a1 b1 => ?_⟩
  walk_at "dl"
  have e1 : S1[S.length]? = some (.lst []) := f1.h (get_at (T := [])) (by omega) (by omega)
  refine ⟨by omega, by omega, ?_⟩
  have ev : (1 + v).toNat = v.toNat + 1 := by omega
  refine for_r0 (fun i Γ S' => ∃ t : List (List Int), ∃ o5 o6 o7, Γ = [some (.own h), some (.int R), some (.int K), some (.int w), some (.own S.length), o5, o6, o7] ∧ Nd S' h b (n + 1 + 14 * i) ∧ S'[S.length]? = some (.lst (t.map rowD)) ∧ t.length = i ∧ (∀ r ∈ t, 1 ≤ r.length ∧ r.length ≤ K ∧ ∀ x ∈ r, 0 ≤ x ∧ x < w)) ⟨[], _, _, _, rfl, nd1, e1, rfl, fun r hr => (nomatch hr)⟩ (fun i Γ' S' hi hp => ?_) fun Γ' S' hp => ?_
  · obtain ⟨t, o5, o6, o7, rfl, nd2, e2, ht, hr⟩ := hp
    walk_at "dl"
    refine ⟨h, b, _, K, rfl, nd2, by omega, by omega, by omega, fun S3 v3 nd3 f3 len3 a3 b3 => ?_⟩
    walk_at "dl"
    refine ⟨small (by decide), h, b, _, 3, rfl, nd3, by omega, by decide, by decide, fun S4 v4 nd4 f4 len4 a4 b4 => ?_⟩
    obtain ⟨j, hj1, hjK, ej⟩ : ∃ j : Int, 1 ≤ j ∧ j ≤ K ∧ atI [D.int (1 + v3), .int K, .int (if (K : Int) - 1 > 1 then (K : Int) - 1 else 1)] v4 = some (.int j) := by
      have hv : v4 = 0 ∨ v4 = 1 ∨ v4 = 2 := by omega
      rcases hv with rfl | rfl | rfl
      · exact ⟨1 + v3, by omega, by omega, rfl⟩
      · exact ⟨K, by omega, by omega, rfl⟩
      · exact ⟨if (K : Int) - 1 > 1 then (K : Int) - 1 else 1, by split <;> omega, by split <;> omega, rfl⟩
    have e4 : S4[S.length]? = some (.lst (t.map rowD)) := f4.h (f3.h e2 (by omega) (by omega)) (by omega) (by omega)
    refine ixl ej ⟨isLst_at e4, j, rfl, by omega, by omega, ?_⟩
    refine lc_r0 (n := j.toNat) (fun k acc S' => ∃ r : List Int, acc = r.map D.int ∧ r.length = k ∧ Nd S' h b (n + 1 + 14 * i + 1 + 1 + k) ∧ S'[S.length]? = some (.lst (t.map rowD)) ∧ ∀ x ∈ r, 0 ≤ x ∧ x < w) (small (by omega)) ⟨[], rfl, rfl, nd4, e4, fun x hx => (nomatch hx)⟩ (fun k acc S' hk hp => ?_) fun acc S' hp => ?_
    · obtain ⟨r, rfl, hr1, nd5, e5, hr2⟩ := hp
      walk_at "dl"
      refine ⟨h, b, _, w, rfl, nd5, by omega, by omega, by omega, fun S6 v6 nd6 f6 len6 a6 b6 => ⟨r ++ [v6], by rw [List.map_append]; rfl, by rw [List.length_append, hr1]; rfl, nd6, f6.h e5 (by omega) (by omega), fun x hx => ?_⟩⟩
      rcases List.mem_append.mp hx with hx | hx
      · exact hr2 x hx
      · rw [List.mem_singleton.mp hx]; exact ⟨a6, b6⟩
    · obtain ⟨r, rfl, hr1, nd5, e5, hr2⟩ := hp
      walk_at "dl"
      refine ⟨_, e5, under (by rw [List.length_map]; omega), t ++ [r], _, _, _, rfl, (nd5.setx (by omega) (by omega) _).more (by omega), ?_, by rw [List.length_append, ht]; rfl, fun x hx => ?_⟩
      · rw [List.getElem?_set_self (List.getElem?_eq_some_iff.mp e5).1, List.map_append]
        rfl
      · rcases List.mem_append.mp hx with hx | hx
        · exact hr x hx
        · rw [List.mem_singleton.mp hx]
          exact ⟨by omega, by omega, hr2⟩
  · obtain ⟨t, o5, o6, o7, rfl, nd2, e2, ht, hr⟩ := hp
    walk_at "dl"
    refine ⟨_, e2, ret_now (q _ t ((nd2.setx (by omega) (by omega) _).more (by omega)) (by omega) (by omega) hr)⟩
theorem colOf_at {t : List (List Int)} {c j : Nat} (h : j < t.length) (hc : c + 1 < (t.getD j []).length) : (colOf t c)[j]? = some (some ((t.getD j []).getD c 0)) := by
  unfold colOf
  rw [List.getElem?_map, tab_get h]
  show some (if c + 1 < (t.getD j []).length then (t.getD j [])[c]? else none) = _
  rw [if_pos hc]
  generalize t.getD j [] = r at hc ⊢
  rw [List.getD_eq_getElem?_getD]
  rw [List.getElem?_eq_getElem (show c < r.length by omega)]
  rfl
theorem colOf_no {t : List (List Int)} {c j : Nat} (h : t.length ≤ j ∨ (t.getD j []).length ≤ c + 1) : ∀ v, (colOf t c)[j]? ≠ some (some v) := fun v e => by
  unfold colOf at e
  rw [List.getElem?_map] at e
  rcases Nat.lt_or_ge j t.length with g | g
  · rw [tab_get g] at e
    have e : some (if c + 1 < (t.getD j []).length then (t.getD j [])[c]? else none) = some (some v) := e
    rw [if_neg (by omega)] at e
    simp at e
  · rw [List.getElem?_eq_none g] at e
    simp at e
theorem cells_mem {t : List (List Int)} {c f z : Nat} {x : Int} : x ∈ cellsF t c f z ↔ ∃ i, f ≤ i ∧ i ≤ z ∧ i < t.length ∧ (t.getD i []).getD c 0 = x := by
  unfold cellsF
  rw [List.mem_map]
  constructor
  · rintro ⟨r, hr, e⟩
    obtain ⟨i, hi, er⟩ := List.getElem_of_mem hr
    rw [List.length_take, List.length_drop] at hi
    rw [List.getElem_take, List.getElem_drop] at er
    exact ⟨f + i, by omega, by omega, by omega, by rw [tab_at (by omega), er]; exact e⟩
  · rintro ⟨i, h1, h2, h3, e⟩
    refine ⟨t.getD i [], ?_, e⟩
    refine List.mem_of_getElem? (i := i - f) ?_
    rw [List.getElem?_take_of_lt (by omega), List.getElem?_drop, show f + (i - f) = i by omega, tab_get h3]
theorem p__law_span : Rets sp__law_span T__law_span N__law_span := by
  rintro _ S Φ Ψ ⟨t, g, l, i, c, rfl, ok, hi, hc, q⟩
  unfold T__law_span
  walk_at "dl"
  rw [sWhile_e]
  refine ⟨fun m Γ S' => S' = S ∧ ∃ a : Nat, Γ = [some (tabD t), some (lookD g l), some (.int i), some (.int c), some (.int a), some (.int i), none] ∧ m = a ∧ a ≤ i ∧ ∀ j, a ≤ j → j ≤ i → c + 1 < (t.getD j []).length, ⟨i, rfl, i, rfl, rfl, Nat.le_refl _, fun j h1 h2 => by rw [show j = i by omega]; exact hc⟩, fun m Γ' S' hp => ?_⟩
  obtain ⟨rfl, a, rfl, rfl, ha, hall⟩ := hp
  have out : (m = 0 ∨ (t.getD (m - 1) []).length ≤ c + 1) → sWhile
            (bAnd (bOf (dOp dLt (dOp dAdd (dVar 5) (dC (.int 1))) (dCB cLen (lCons (dVar 0) lNil))))
              (bOf
                (dOp dGt (dCB cLen (lCons (dOp dIx (dVar 0) (dOp dAdd (dVar 5) (dC (.int 1)))) lNil))
                  (dOp dAdd (dVar 3) (dC (.int 1))))))
            (sAsg (dOp dAdd (dVar 5) (dC (.int 1))) (nmG 5))
            { nx := sRet (dOp dAdd (dCB cMax (lCons (dOp dAdd (dLst (lCons (dOp dIx (dVar 1) (dC (.int 1))) lNil)) (dLc (iSeq (dSl dSlL (dVar 0) (oSome (dVar 4)) (oSome (dOp dAdd (dVar 5) (dC (.int 1)))))) (nmG 6) bYes (dOp dIx (dVar 6) (dVar 3)) [6] finF)) lNil)) (dOp dIx (dVar 1) (dC (.int 0)))) { nx := fun x S'_1 => RetOk S' Φ S'_1 D.non, rt := RetOk S' Φ, er := ErOk S' Ψ }, rt := RetOk S' Φ, er := ErOk S' Ψ } [some (tabD t), some (lookD g l), some (.int i), some (.int c), some (.int m), some (.int i), none] S' := fun hlo => by
    rw [sWhile_e]
    refine ⟨fun m' Γ S2 => S2 = S' ∧ ∃ z : Nat, Γ = [some (tabD t), some (lookD g l), some (.int i), some (.int c), some (.int m), some (.int z), none] ∧ m' + z = t.length ∧ i ≤ z ∧ z < t.length ∧ ∀ j, m ≤ j → j ≤ z → c + 1 < (t.getD j []).length, ⟨t.length - i, rfl, i, rfl, by omega, Nat.le_refl _, hi, hall⟩, fun m' Γ' S2 hp => ?_⟩
    obtain ⟨rfl, z, rfl, hm, hz, hzt, hall⟩ := hp
    walk_at "dl"
    rw [List.length_map]
    have esl : cutD (List.map rowD t) (some (m : Int)) (some ((z : Int) + 1)) = ((t.drop m).take (z + 1 - m)).map rowD := by
      rw [show ((z : Int) + 1) = ((z + 1 : Nat) : Int) by omega, cut_mid (by omega) (by rw [List.length_map]; omega), ← List.map_drop, ← List.map_take]
    have ecs : (((t.drop m).take (z + 1 - m)).map fun r => D.int (r.getD c 0)) = (cellsF t c m z).map D.int := by
      unfold cellsF
      rw [List.map_map]
      rfl
    have hlen := cells_len (t := t) (c := c) (f := m) hzt
    have h60 := ok.hi
    have done : (z + 1 = t.length ∨ (t.getD (z + 1) []).length ≤ c + 1) → 1 ≤ sizeLine ∧ lcP (fun S' => some (cutD (List.map rowD t) (some (m : Int)) (some ((z : Int) + 1)))) (nmG 6) bYes (dOp dIx (dVar 6) (dVar 3))
        [6] finF [some (tabD t), some (lookD g l), some (.int i), some (.int c), some (.int m), some (.int z), none] S2
        (fun S2_1 y => dAdd (.lst [.int l]) y S2_1 fun S1 x => cMax [x] S1 fun S1 x => dAdd x (.int g) S1 (RetOk S2 Φ)) := fun hhi => by
      refine ⟨small (by decide), ?_⟩
      rw [esl]
      refine lc_map _ rowD (fun r => .int (r.getD c 0)) (small (by rw [List.length_take]; omega)) (fun r hr R hR => ?_) ?_
      · walk_at "dl"
        have hcr : c < r.length := by
          obtain ⟨k, hk, e⟩ := List.getElem_of_mem hr
          rw [List.length_take, List.length_drop] at hk
          rw [List.getElem_take, List.getElem_drop] at e
          have := hall (m + k) (by omega) (by omega)
          rw [tab_at (by omega), e] at this
          omega
        rw [at_nat]
        exact ⟨_, by rw [List.getElem?_map, List.getElem?_eq_getElem hcr, List.getD_eq_getElem?_getD, List.getElem?_eq_getElem hcr]; rfl, hR⟩
      · walk_at "dl"
        rw [ecs]
        refine ⟨small (by rw [List.length_map]; omega), l :: cellsF t c m z, rfl, by simp, fun v hv1 hv2 => ?_⟩
        have is1 : IsRoom l (colOf t c) m z v := by
          refine ⟨hv2 l List.mem_cons_self, fun j x h1 h2 e => ?_, ?_⟩
          · rw [colOf_at (by omega) (hall j h1 h2)] at e
            injection e with e
            injection e with e
            rw [← e]
            exact hv2 _ (List.mem_cons_of_mem _ (cells_mem.mpr ⟨j, h1, h2, by omega, rfl⟩))
          · rcases List.mem_cons.mp hv1 with e | e
            · exact .inl e
            · obtain ⟨j, h1, h2, h3, e⟩ := cells_mem.mp e
              exact .inr ⟨j, h1, h2, by rw [colOf_at (by omega) (hall j h1 h2), e]⟩
        have is2 := roomAt_is l (xs := colOf t c) (f := m) (l := z) (j := i) ha hz (fun j h1 h2 => ⟨_, colOf_at (by omega) (hall j h1 h2)⟩) (colOf_no (by omega)) (hlo.imp id fun e => colOf_no (.inr e))
        rw [is1.eq is2]
        walk_at "dl"
        exact ret_now q
    by_cases hz2 : z + 1 < t.length
    · rw [if_pos (by rw [decide_eq_true_eq]; omega), show ((z : Int) + 1) = ((z + 1 : Nat) : Int) by omega]
      refine ⟨_, by rw [at_nat, List.getElem?_map, tab_get hz2]; rfl, ?_⟩
      rw [cLen_L rfl, List.length_map]
      walk_at "dl"
      by_cases h2 : c + 1 < (t.getD (z + 1) []).length
      · rw [if_pos (by rw [decide_eq_true_eq]; omega)]
        refine ⟨m' - 1, by omega, z + 1, rfl, by omega, by omega, hz2, fun j h1 h3 => ?_⟩
        by_cases e : j = z + 1
        · rw [e]; exact h2
        · exact hall j h1 (by omega)
      · rw [if_neg (by rw [decide_eq_true_eq]; omega)]
        exact done (.inr (by omega))
    · rw [if_neg (by rw [decide_eq_true_eq]; omega)]
      exact done (.inl (by omega))
  walk_at "dl"
  by_cases h0 : m = 0
  · subst h0
    rw [if_neg (by decide)]
    exact out (.inl rfl)
  · rw [if_pos (by rw [decide_eq_true_eq]; omega), show ((m : Int) - 1) = ((m - 1 : Nat) : Int) by omega]
    refine ⟨_, by rw [at_nat, List.getElem?_map, tab_get (by omega)]; rfl, ?_⟩
    rw [cLen_L rfl, List.length_map]
    walk_at "dl"
    by_cases h2 : c + 1 < (t.getD (m - 1) []).length
    · rw [if_pos (by rw [decide_eq_true_eq]; omega)]
      refine ⟨m - 1, by omega, m - 1, rfl, rfl, by omega, fun j h1 h3 => ?_⟩
      by_cases e : j = m - 1
      · rw [e]; exact h2
      · exact hall j (by omega) h3
    · rw [if_neg (by rw [decide_eq_true_eq]; omega)]
      exact out (.inr (by omega))
end DL
namespace DL
open PySem PySem.Spec PyProof.Rows L2
local macro_rules | `(tactic| walk_at "dl") => `(tactic| ((try simp only [gstart, gwipe, List.set_set, List.map_cons, List.map_nil, List.length_cons, List.length_nil, rep_0, rep_s, List.cons_append, List.nil_append, List.set_cons_zero, List.set_cons_succ, Nat.reduceAdd, Nat.reduceSub, Nat.zero_add, Nat.add_zero]); (try simp only [↓dv0, ↓dv1, ↓dv2, ↓dv3, ↓dv4, ↓dv5, ↓dv6, ↓dv7, ↓dv8, ↓dv9, ↓dv10, ↓dv11, ↓dv12, ↓dv13, ↓dv14, ↓dv15, ↓dv16, ↓dv17, ↓dv18, ↓dv19, ↓dv20, ↓dv21, ↓dv22, ↓dv23, ↓dv24, ↓dv25, ↓dv26, ↓dv27, ↓dv28, ↓dv29, ↓dv30, ↓dv31, ↓dv32, ↓dv33, ↓dv34, ↓dv35, ↓dv36, ↓dv37, ↓dv38, ↓dv39, ↓nm0, ↓nm1, ↓nm2, ↓nm3, ↓nm4, ↓nm5, ↓nm6, ↓nm7, ↓nm8, ↓nm9, ↓nm10, ↓nm11, ↓nm12, ↓nm13, ↓nm14, ↓nm15, ↓nm16, ↓nm17, ↓nm18, ↓nm19, ↓nm20, ↓nm21, ↓nm22, ↓nm23, ↓nm24, ↓nm25, ↓nm26, ↓nm27, ↓nm28, ↓nm29, ↓nm30, ↓nm31, ↓nm32, ↓nm33, ↓nm34, ↓nm35, ↓nm36, ↓nm37, ↓nm38, ↓nm39, ↓sPar_n, ↓sPar3_n, ↓sAug_n, ↓reduceIte, List.set_set, ↓sNext_e, ↓sSeq_e, ↓sBrk_e, ↓sCnt_e, ↓sDrop_e, ↓sRet_e, ↓sRetN_e, ↓sIf_e, ↓sAsg_e, ↓sRaise_e, ↓nmG_e, ↓tupG_e, ↓gsNil_e, ↓gsCons_e, ↓subG_e, ↓dC_e, ↓dOp_e, ↓dUn_e, ↓dChain_e, ↓bOf_e, ↓bAnd_e, ↓bOr_e, ↓bNot_e, ↓bYes_e, ↓dAnd_e, ↓dOr_e, ↓dNot_e, ↓dIf_e, ↓lNil_e, ↓lCons_e, ↓dLst_e, ↓dDic0_e, ↓dDic1_e, ↓dLenSetG_e, dIsB_b, dIsNB_b, dSD_e, ↓dLstO_e, ↓dTup_e, ↓dCB_e, ↓dCall_e, ↓dCallK_e, ↓oNone_e, ↓oSome_e, ↓dSl_e, ↓dBM_e, ↓dBM0_e, ↓dFz_e, ↓dFz2_e, ↓d2_e, ↓dLone_e, ↓lStar_e, ↓dCallA_e, ↓dMakeA_e, ↓dMakeV_e, ↓dMethA_e, ↓dCMethA_e, ↓dPropA_e, ↓dFld_e, ↓sFldS_e, ↓dFzI_e, ↓fzID_o, ↓dM1_e, ↓dM0_e, ↓dRev_e, ↓mSplit_s, ↓mUpper_s, ↓exStr, ↓exZ, ↓cStrI_i, ↓cIntS_s, ↓iStrD_e, ↓dEqF_s, ↓dNeF_s, ↓dEqF_i, ↓dNeF_i, ↓dSign_s, ↓sRaiseI_e, ↓dXFld_e, ↓mPop_e, ↓dAddO_l, ↓dAddO_o, ↓dMk0_e, ↓sKeep_e, ↓sTryH_e, ↓dCVal_e, ↓dConI_e, ↓cLen_s, ↓dIx_s, ↓dSlS_s, ↓dAdd_s, ↓cTup_l, ↓pkP_e, ↓pkS_e, ↓lstG_e, ↓asI_i, ↓iSeq_e, ↓iTupD_e, ↓iRg1_e, ↓iRg2_e, ↓iZipD_e, iZrD_e, ↓iEnumD_e, ↓sFor_e, ↓dLc_e, ↓finF_e, ↓finO_e, ↓fzD_l, ↓fzD_i, ↓fzD_o, ↓fzD2_o, ↓dSetO_e, ↓mAppend_e, ↓mClear_e, ↓mReverse_e, List.map_cons, List.map_nil, List.length_cons, List.length_nil, rep_0, rep_s, List.cons_append, List.nil_append, List.getElem?_cons_zero, List.getElem?_cons_succ, List.set_cons_zero, List.set_cons_succ, Nat.reduceAdd, Nat.reduceSub, Nat.zero_add, Nat.add_zero, ↓exSS, ↓exB, ↓exI, ↓ex1, ↓ex2, ↓ex3, ↓exI1, ↓exI2, ↓exT, ↓exC, ↓exAs, ↓dAdd_i, ↓dAddI_i, ↓dSubI_i, ↓dLRg_e, ↓dIsiT_e, ↓dLenSet_e, ↓bChain3_e, ↓dLRg2_e, ↓iRg3_e, ↓dLc2_e, ↓dSlT_t, dAddT_t, ↓dNewK_e, ↓dDis1_e, ↓sDkp_e, ↓dDGet_e, ↓dDGet2_e, ↓dLVals_e, ↓kD_ex_i, ↓dSS_e, ↓dST_e, ↓dSI_e, ↓lsG_e, ↓dMulI_i, ↓dNew_e, ↓sDct_e, ↓dMulO_l, ↓dLRgO_e, ↓dAdd_l, ↓dSub_i, ↓dMul_i, ↓dMul_l, ↓dMod_i, ↓dDiv_i, ↓dPow_i, ↓dLt_i, ↓dLe_i, ↓dGt_i, ↓dGe_i, ↓uNeg_i, ↓cMax2_i, ↓cMin2_i, ↓cAbs_i, ↓cInt_i, ↓cInt_b, ↓cLen_l, ↓cLen_q, ↓cLen_t, ↓cList_l, ↓cList_q, ↓cList_t, ↓cListO_l, ↓cListO_t, ↓dIx_l, ↓dIx_q, ↓dIx_t, ↓dIx_o', ↓exS, ↓exL, at_1, at_2, at_3, at_4, ix30, ix31, ix32, ↓dSlL_l, ↓dSlL_q, ↓asQ_l, ↓asL_l, at_0, ↓isi_non_int, ↓isi_non_bool, ↓isi_non_str, ↓isi_non_list, ↓isi_non_tuple, ↓isi_non_dict, ↓isi_bl_int, ↓isi_bl_bool, ↓isi_bl_str, ↓isi_bl_list, ↓isi_bl_tuple, ↓isi_bl_dict, ↓isi_int_int, ↓isi_int_bool, ↓isi_int_str, ↓isi_int_list, ↓isi_int_tuple, ↓isi_int_dict, ↓isi_str_int, ↓isi_str_bool, ↓isi_str_str, ↓isi_str_list, ↓isi_str_tuple, ↓isi_str_dict, ↓isi_lst_int, ↓isi_lst_bool, ↓isi_lst_str, ↓isi_lst_list, ↓isi_lst_tuple, ↓isi_lst_dict, ↓isi_sq_int, ↓isi_sq_bool, ↓isi_sq_str, ↓isi_sq_list, ↓isi_sq_tuple, ↓isi_sq_dict, ↓isi_tup_int, ↓isi_tup_bool, ↓isi_tup_str, ↓isi_tup_list, ↓isi_tup_tuple, ↓isi_tup_dict, ↓isi_dic_int, ↓isi_dic_bool, ↓isi_dic_str, ↓isi_dic_list, ↓isi_dic_tuple, ↓isi_dic_dict, if_true, if_false, Bool.not_true, Bool.not_false, true_and, and_true, reduceCtorEq, Bool.true_eq_false, Bool.false_eq_true, ite_true, ite_false, ↓exAny, ↓isLst_l, Int.toNat_natCast, Int.reduceToNat, dVar_e, sPar_e, sPar3_e, sAug_e])))
local macro_rules | `(tactic| walk_at "dls") => `(tactic| ((try simp only [gstart, gwipe, List.set_set, List.map_cons, List.map_nil, List.length_cons, List.length_nil, rep_0, rep_s, List.cons_append, List.nil_append, List.set_cons_zero, List.set_cons_succ, Nat.reduceAdd, Nat.reduceSub, Nat.zero_add, Nat.add_zero]); (try simp only [*, ↓dv0, ↓dv1, ↓dv2, ↓dv3, ↓dv4, ↓dv5, ↓dv6, ↓dv7, ↓dv8, ↓dv9, ↓dv10, ↓dv11, ↓dv12, ↓dv13, ↓dv14, ↓dv15, ↓dv16, ↓dv17, ↓dv18, ↓dv19, ↓dv20, ↓dv21, ↓dv22, ↓dv23, ↓dv24, ↓dv25, ↓dv26, ↓dv27, ↓dv28, ↓dv29, ↓dv30, ↓dv31, ↓dv32, ↓dv33, ↓dv34, ↓dv35, ↓dv36, ↓dv37, ↓dv38, ↓dv39, ↓nm0, ↓nm1, ↓nm2, ↓nm3, ↓nm4, ↓nm5, ↓nm6, ↓nm7, ↓nm8, ↓nm9, ↓nm10, ↓nm11, ↓nm12, ↓nm13, ↓nm14, ↓nm15, ↓nm16, ↓nm17, ↓nm18, ↓nm19, ↓nm20, ↓nm21, ↓nm22, ↓nm23, ↓nm24, ↓nm25, ↓nm26, ↓nm27, ↓nm28, ↓nm29, ↓nm30, ↓nm31, ↓nm32, ↓nm33, ↓nm34, ↓nm35, ↓nm36, ↓nm37, ↓nm38, ↓nm39, ↓sPar_n, ↓sPar3_n, ↓sAug_n, ↓reduceIte, List.set_set, ↓sNext_e, ↓sSeq_e, ↓sBrk_e, ↓sCnt_e, ↓sDrop_e, ↓sRet_e, ↓sRetN_e, ↓sIf_e, ↓sAsg_e, ↓sRaise_e, ↓nmG_e, ↓tupG_e, ↓gsNil_e, ↓gsCons_e, ↓subG_e, ↓dC_e, ↓dOp_e, ↓dUn_e, ↓dChain_e, ↓bOf_e, ↓bAnd_e, ↓bOr_e, ↓bNot_e, ↓bYes_e, ↓dAnd_e, ↓dOr_e, ↓dNot_e, ↓dIf_e, ↓lNil_e, ↓lCons_e, ↓dLst_e, ↓dDic0_e, ↓dDic1_e, ↓dLenSetG_e, dIsB_b, dIsNB_b, dSD_e, ↓dLstO_e, ↓dTup_e, ↓dCB_e, ↓dCall_e, ↓dCallK_e, ↓oNone_e, ↓oSome_e, ↓dSl_e, ↓dBM_e, ↓dBM0_e, ↓dFz_e, ↓dFz2_e, ↓d2_e, ↓dLone_e, ↓lStar_e, ↓dCallA_e, ↓dMakeA_e, ↓dMakeV_e, ↓dMethA_e, ↓dCMethA_e, ↓dPropA_e, ↓dFld_e, ↓sFldS_e, ↓dFzI_e, ↓fzID_o, ↓dM1_e, ↓dM0_e, ↓dRev_e, ↓mSplit_s, ↓mUpper_s, ↓exStr, ↓exZ, ↓cStrI_i, ↓cIntS_s, ↓iStrD_e, ↓dEqF_s, ↓dNeF_s, ↓dEqF_i, ↓dNeF_i, ↓dSign_s, ↓sRaiseI_e, ↓dXFld_e, ↓mPop_e, ↓dAddO_l, ↓dAddO_o, ↓dMk0_e, ↓sKeep_e, ↓sTryH_e, ↓dCVal_e, ↓dConI_e, ↓cLen_s, ↓dIx_s, ↓dSlS_s, ↓dAdd_s, ↓cTup_l, ↓pkP_e, ↓pkS_e, ↓lstG_e, ↓asI_i, ↓iSeq_e, ↓iTupD_e, ↓iRg1_e, ↓iRg2_e, ↓iZipD_e, iZrD_e, ↓iEnumD_e, ↓sFor_e, ↓dLc_e, ↓finF_e, ↓finO_e, ↓fzD_l, ↓fzD_i, ↓fzD_o, ↓fzD2_o, ↓dSetO_e, ↓mAppend_e, ↓mClear_e, ↓mReverse_e, List.map_cons, List.map_nil, List.length_cons, List.length_nil, rep_0, rep_s, List.cons_append, List.nil_append, List.getElem?_cons_zero, List.getElem?_cons_succ, List.set_cons_zero, List.set_cons_succ, Nat.reduceAdd, Nat.reduceSub, Nat.zero_add, Nat.add_zero, ↓exSS, ↓exB, ↓exI, ↓ex1, ↓ex2, ↓ex3, ↓exI1, ↓exI2, ↓exT, ↓exC, ↓exAs, ↓dAdd_i, ↓dAddI_i, ↓dSubI_i, ↓dLRg_e, ↓dIsiT_e, ↓dLenSet_e, ↓bChain3_e, ↓dLRg2_e, ↓iRg3_e, ↓dLc2_e, ↓dSlT_t, dAddT_t, ↓dNewK_e, ↓dDis1_e, ↓sDkp_e, ↓dDGet_e, ↓dDGet2_e, ↓dLVals_e, ↓kD_ex_i, ↓dSS_e, ↓dST_e, ↓dSI_e, ↓lsG_e, ↓dMulI_i, ↓dNew_e, ↓sDct_e, ↓dMulO_l, ↓dLRgO_e, ↓dAdd_l, ↓dSub_i, ↓dMul_i, ↓dMul_l, ↓dMod_i, ↓dDiv_i, ↓dPow_i, ↓dLt_i, ↓dLe_i, ↓dGt_i, ↓dGe_i, ↓uNeg_i, ↓cMax2_i, ↓cMin2_i, ↓cAbs_i, ↓cInt_i, ↓cInt_b, ↓cLen_l, ↓cLen_q, ↓cLen_t, ↓cList_l, ↓cList_q, ↓cList_t, ↓cListO_l, ↓cListO_t, ↓dIx_l, ↓dIx_q, ↓dIx_t, ↓dIx_o', ↓exS, ↓exL, at_1, at_2, at_3, at_4, ix30, ix31, ix32, ↓dSlL_l, ↓dSlL_q, ↓asQ_l, ↓asL_l, at_0, ↓isi_non_int, ↓isi_non_bool, ↓isi_non_str, ↓isi_non_list, ↓isi_non_tuple, ↓isi_non_dict, ↓isi_bl_int, ↓isi_bl_bool, ↓isi_bl_str, ↓isi_bl_list, ↓isi_bl_tuple, ↓isi_bl_dict, ↓isi_int_int, ↓isi_int_bool, ↓isi_int_str, ↓isi_int_list, ↓isi_int_tuple, ↓isi_int_dict, ↓isi_str_int, ↓isi_str_bool, ↓isi_str_str, ↓isi_str_list, ↓isi_str_tuple, ↓isi_str_dict, ↓isi_lst_int, ↓isi_lst_bool, ↓isi_lst_str, ↓isi_lst_list, ↓isi_lst_tuple, ↓isi_lst_dict, ↓isi_sq_int, ↓isi_sq_bool, ↓isi_sq_str, ↓isi_sq_list, ↓isi_sq_tuple, ↓isi_sq_dict, ↓isi_tup_int, ↓isi_tup_bool, ↓isi_tup_str, ↓isi_tup_list, ↓isi_tup_tuple, ↓isi_tup_dict, ↓isi_dic_int, ↓isi_dic_bool, ↓isi_dic_str, ↓isi_dic_list, ↓isi_dic_tuple, ↓isi_dic_dict, if_true, if_false, Bool.not_true, Bool.not_false, true_and, and_true, reduceCtorEq, Bool.true_eq_false, Bool.false_eq_true, ite_true, ite_false, ↓exAny, ↓isLst_l, Int.toNat_natCast, Int.reduceToNat, dVar_e, sPar_e, sPar3_e, sAug_e])))
--MK
theorem stops_last (g : Int) : ∀ (xs : List Int) (s : Int), (stopsFrom g s xs).getLastD s = s + (xs.map (· + g)).sum
  | [], s => by show s = s + 0; omega
  | x :: xs, s => by
    have := stops_last g xs (s + (x + g))
    show ((s + (x + g)) :: stopsFrom g (s + (x + g)) xs).getLastD s = _
    rw [List.getLastD_cons, this, List.map_cons, List.sum_cons]
    omega
theorem p__law_ends : Rets sp__law_ends T__law_ends N__law_ends := by
  rintro _ S Φ Ψ ⟨t, g, l, rfl, ok, q⟩
  unfold T__law_ends
  walk_at "dl"
  refine ⟨small (Nat.zero_le _), ?_⟩
  have h60 := ok.hi
  have src : (fun S' : Sto => Option.map enumD (some (t.map rowD))) = fun _ => some (enumD (t.map rowD)) := rfl
  rw [src]
  refine for_l (ds := enumD (t.map rowD)) (fun i Γ S' => ∃ o3 o4 o5, Γ = [some (tabD t), some (lookD g l), some (.own S.length), o3, o4, o5] ∧ S' = S ++ [.lst (((endsF g l t).take i).map D.int)]) ⟨_, _, _, rfl, rfl⟩ (fun i Γ S' hi hp => ?_) fun Γ S' hp => ?_
  · obtain ⟨o3, o4, o5, rfl, rfl⟩ := hp
    rw [enumD_len, List.length_map] at hi
    have rok := ok.row _ (List.mem_of_getElem? (tab_get hi))
    have r1 := rok.lo
    have r2 := rok.hi
    have ej : (enumD (t.map rowD))[i]'(by rw [enumD_len, List.length_map]; exact hi) = .tup [.int (i : Int), rowD (t.getD i [])] := by
      unfold enumD
      rw [List.getElem_map, List.getElem_range, List.getD_eq_getElem?_getD, List.getElem?_map, tab_get hi]
      rfl
    rw [ej]
    have et : (endsF g l t).take (i + 1) = (endsF g l t).take i ++ [rowEnd g l t i] := by
      rw [List.take_add_one]
      unfold endsF
      rw [List.getElem?_map, List.getElem?_range hi]
      rfl
    rw [et]
    have el : ((endsF g l t).take i).length ≤ 60 := by rw [List.length_take]; have := ends_len g l t; omega
    generalize (endsF g l t).take i = acc at *
    walk_at "dl"
    unfold rowD
    walk_at "dl"
    rw [List.length_map]
    refine ⟨isLst_at get_at, by omega, by omega, ?_⟩
    rw [show (((t.getD i []).length : Int) - 1).toNat = (t.getD i []).length - 1 by omega]
    refine lc_r0 (n := (t.getD i []).length - 1) (fun k acc2 S' => S' = S ++ [.lst (acc.map D.int)] ∧ acc2 = (((roomsOf l t i).take k).map (· + g)).map D.int) (small (by omega)) ⟨rfl, rfl⟩ (fun k acc2 S' hk hp => ?_) fun acc2 S' hp => ?_
    · obtain ⟨rfl, rfl⟩ := hp
      walk_at "dl"
      refine ⟨t, g, l, i, k, rfl, ok, hi, by omega, rfl, ?_⟩
      unfold roomsOf
      rw [List.take_add_one, List.getElem?_map, List.getElem?_range hk, List.map_append, List.map_append]
      rfl
    · obtain ⟨rfl, rfl⟩ := hp
      walk_at "dl"
      have erl : (roomsOf l t i).length = (t.getD i []).length - 1 := by unfold roomsOf; rw [List.length_map, List.length_range]
      refine ⟨_, rfl, .int ((t.getD i []).getLastD 0), by rw [at_neg1 (by rw [List.length_map]; omega), last_map (by omega)], ?_⟩
      walk_at "dl"
      refine ⟨_, get_at, under (by rw [List.length_map]; omega), _, _, _, rfl, ?_⟩
      rw [set_at, List.map_append, ← erl, List.take_length]
      unfold rowEnd rowStops
      rw [stops_last, Int.zero_add]
      rfl
  · obtain ⟨o3, o4, o5, rfl, rfl⟩ := hp
    walk_at "dl"
    refine ⟨_, get_at, ?_⟩
    rw [set_at, enumD_len, List.length_map, List.take_of_length_le (by rw [ends_len]; exact Nat.le_refl _)]
    exact ret_now (q _)
theorem grown_snoc (A : List (List Int)) (r : List Int) (k : Nat) (f : Int) (z : Nat) : grownF (A ++ [r]) k f z = grownF A k f z ++ List.replicate k (List.replicate z 0 ++ r.map (· * f)) := by
  unfold grownF
  rw [List.flatMap_append]
  simp
theorem grown_len (k : Nat) (f : Int) (z : Nat) : ∀ A : List (List Int), (grownF A k f z).length = k * A.length
  | [] => rfl
  | r :: A => by
    have := grown_len k f z A
    show (List.replicate k _ ++ grownF A k f z).length = k * (A.length + 1)
    rw [List.length_append, List.length_replicate, this, Nat.mul_succ]
    omega
theorem flat_zero : ∀ z : Nat, (List.replicate z [D.int 0]).flatten = (List.replicate z (0 : Int)).map D.int
  | 0 => rfl
  | z + 1 => by rw [List.replicate_succ, List.flatten_cons, flat_zero z]; rfl
theorem p__law_grown : Rets sp__law_grown T__law_grown N__law_grown := by
  rintro _ S Φ Ψ ⟨t, g, l, k, z, f, rfl, ok, hk, hz, f0, f1, g0, g1, l0, l1, hx, q⟩
  unfold T__law_grown
  walk_at "dl"
  refine ⟨small (Nat.zero_le _), ?_⟩
  refine for_l (ds := t.map rowD) (fun i Γ S' => ∃ o7 o8 o9, Γ = [some (tabD t), some (lookD g l), some (D.tup [D.int k, D.int f, D.int z]), some (D.int k), some (D.int f), some (D.int z), some (.own S.length), o7, o8, o9] ∧ S' = S ++ [.lst ((grownF (t.take i) k f z).map rowD)]) ⟨_, _, _, rfl, rfl⟩ (fun i Γ S' hi hp => ?_) fun Γ S' hp => ?_
  · obtain ⟨o7, o8, o9, rfl, rfl⟩ := hp
    rw [List.length_map] at hi
    rw [List.getElem_map]
    have xt : t.take (i + 1) = t.take i ++ [t[i]] := by rw [List.take_add_one, List.getElem?_eq_getElem hi]; rfl
    have hrm := List.getElem_mem hi
    rw [xt]
    generalize t[i] = r at *
    walk_at "dl"
    have ta : (t.take i).length = i := by rw [List.length_take]; omega
    have hki : k * (i + 1) ≤ k * t.length := Nat.mul_le_mul_left _ hi
    rw [Nat.mul_succ] at hki
    have hgl := grown_len k f z (t.take i)
    rw [ta] at hgl
    rw [grown_snoc]
    generalize grownF (t.take i) k f z = A at *
    have hrok := ok.row r hrm
    have r2 := hrok.hi
    refine ⟨by omega, by omega, for_r0 (fun j Γ S' => ∃ o8 o9, Γ = [some (tabD t), some (lookD g l), some (D.tup [D.int k, D.int f, D.int z]), some (D.int k), some (D.int f), some (D.int z), some (.own S.length), some (rowD r), o8, o9] ∧ S' = S ++ [.lst ((A ++ List.replicate j (List.replicate z 0 ++ r.map (· * f))).map rowD)]) ⟨_, _, rfl, by rw [List.replicate_zero, List.append_nil]⟩ (fun j Γ S' hj hp => ?_) fun Γ S' hp => ?_⟩
    · obtain ⟨o8, o9, rfl, rfl⟩ := hp
      walk_at "dl"
      refine ⟨isLst_at get_at, small (by decide), ?_⟩
      refine ⟨by omega, by omega, small (by omega), ?_⟩
      refine lc_map r D.int (fun x => .int (x * f)) (small (by omega)) (fun x hx2 R hR => ?_) ?_
      · walk_at "dl"
        have c1 := hx r hrm x hx2
        have c0 := (hrok.at_ x hx2).1
        exact ⟨cml (by omega) (by omega), hR⟩
      · walk_at "dl"
        rw [flat_zero z]
        refine ⟨small (by rw [List.length_map, List.length_map, List.length_replicate]; omega), _, get_at, under (by rw [List.length_map, List.length_append, List.length_replicate]; omega), _, _, rfl, ?_⟩
        rw [set_at, List.replicate_succ', ← List.append_assoc, List.map_append (l₂ := [_])]
        unfold rowD
        rw [List.map_cons, List.map_append (l₁ := List.replicate z 0), List.map_map (l := r)]
        rfl
    · obtain ⟨o8, o9, rfl, rfl⟩ := hp
      exact ⟨_, _, _, rfl, rfl⟩
  · obtain ⟨o7, o8, o9, rfl, rfl⟩ := hp
    walk_at "dl"
    refine ⟨_, get_at, cml (by omega) (by omega), cml (by omega) (by omega), small (by decide), small (by decide), ?_⟩
    rw [set_at, List.length_map, List.take_length]
    exact ret_now (q _)
theorem p__law_sum : Rets sp__law_sum T__law_sum N__law_sum := by
  rintro _ S Φ Ψ ⟨ps, w, rfl, hl, hp, hw, q⟩
  unfold T__law_sum
  walk_at "dl"
  refine lc_map ps pieceD (fun p => .int (p.2.2 * max 0 (p.2.1 - max p.1 w))) (small (by omega)) (fun p hp2 R hR => ?_) ?_
  · obtain ⟨lo, hi, sl⟩ := p
    unfold pieceD
    walk_at "dl"
    obtain ⟨b1, b2, b3⟩ := hp _ hp2
    have em : (if w > lo then w else lo) = max lo w := by split <;> omega
    have em2 : (if hi - max lo w > 0 then hi - max lo w else 0) = max 0 (hi - max lo w) := by split <;> omega
    rw [em, em2]
    refine ⟨.inr (wide_mul (a := 200) (b := 310) b1 ?_ (by decide) (by decide) (by decide)), hR⟩
    have b2 : lo.natAbs < 2 ^ 200 := b2
    have b3 : hi.natAbs < 2 ^ 200 := b3
    have c1 : (2 : Nat) ^ 200 + 2 ^ 200 + 2 ^ 300 < 2 ^ 310 := by decide
    generalize (2 : Nat) ^ 200 = P at *
    generalize (2 : Nat) ^ 300 = Q at *
    generalize (2 : Nat) ^ 310 = Z at *
    omega
  · walk_at "dl"
    exact ⟨_, by rw [List.map_map]; rfl, ret_now q⟩
theorem p__law_refused (I C : Addr) : Rets (sp__law_refused C I) (T__law_refused I C) N__law_refused := by
  rintro _ S Φ Ψ ⟨t, s, ks, g, l, n, rfl, ok, es, lk, hn, q⟩
  unfold T__law_refused
  walk_at "dl"
  rw [sTryC_e]
  walk_at "dl"
  have q0 := q []
  rw [List.append_nil] at q0
  exact ⟨t, s, ks, g, l, n, rfl, ok, es, lk, Int.lt_trans hn (Int.pow_pos (by decide)), fun h => by omega, fun _ => ⟨List.mem_singleton.mpr rfl, ret_now q0⟩⟩
end DL
namespace DL
open PySem PySem.Spec PyProof.Rows L2
local macro_rules | `(tactic| walk_at "dl") => `(tactic| ((try simp only [gstart, gwipe, List.set_set, List.map_cons, List.map_nil, List.length_cons, List.length_nil, rep_0, rep_s, List.cons_append, List.nil_append, List.set_cons_zero, List.set_cons_succ, Nat.reduceAdd, Nat.reduceSub, Nat.zero_add, Nat.add_zero]); (try simp only [↓dv0, ↓dv1, ↓dv2, ↓dv3, ↓dv4, ↓dv5, ↓dv6, ↓dv7, ↓dv8, ↓dv9, ↓dv10, ↓dv11, ↓dv12, ↓dv13, ↓dv14, ↓dv15, ↓dv16, ↓dv17, ↓dv18, ↓dv19, ↓dv20, ↓dv21, ↓dv22, ↓dv23, ↓dv24, ↓dv25, ↓dv26, ↓dv27, ↓dv28, ↓dv29, ↓dv30, ↓dv31, ↓dv32, ↓dv33, ↓dv34, ↓dv35, ↓dv36, ↓dv37, ↓dv38, ↓dv39, ↓nm0, ↓nm1, ↓nm2, ↓nm3, ↓nm4, ↓nm5, ↓nm6, ↓nm7, ↓nm8, ↓nm9, ↓nm10, ↓nm11, ↓nm12, ↓nm13, ↓nm14, ↓nm15, ↓nm16, ↓nm17, ↓nm18, ↓nm19, ↓nm20, ↓nm21, ↓nm22, ↓nm23, ↓nm24, ↓nm25, ↓nm26, ↓nm27, ↓nm28, ↓nm29, ↓nm30, ↓nm31, ↓nm32, ↓nm33, ↓nm34, ↓nm35, ↓nm36, ↓nm37, ↓nm38, ↓nm39, ↓sPar_n, ↓sPar3_n, ↓sAug_n, ↓reduceIte, List.set_set, ↓sNext_e, ↓sSeq_e, ↓sBrk_e, ↓sCnt_e, ↓sDrop_e, ↓sRet_e, ↓sRetN_e, ↓sIf_e, ↓sAsg_e, ↓sRaise_e, ↓nmG_e, ↓tupG_e, ↓gsNil_e, ↓gsCons_e, ↓subG_e, ↓dC_e, ↓dOp_e, ↓dUn_e, ↓dChain_e, ↓bOf_e, ↓bAnd_e, ↓bOr_e, ↓bNot_e, ↓bYes_e, ↓dAnd_e, ↓dOr_e, ↓dNot_e, ↓dIf_e, ↓lNil_e, ↓lCons_e, ↓dLst_e, ↓dDic0_e, ↓dDic1_e, ↓dLenSetG_e, dIsB_b, dIsNB_b, dSD_e, ↓dLstO_e, ↓dTup_e, ↓dCB_e, ↓dCall_e, ↓dCallK_e, ↓oNone_e, ↓oSome_e, ↓dSl_e, ↓dBM_e, ↓dBM0_e, ↓dFz_e, ↓dFz2_e, ↓d2_e, ↓dLone_e, ↓lStar_e, ↓dCallA_e, ↓dMakeA_e, ↓dMakeV_e, ↓dMethA_e, ↓dCMethA_e, ↓dPropA_e, ↓dFld_e, ↓sFldS_e, ↓dFzI_e, ↓fzID_o, ↓dM1_e, ↓dM0_e, ↓dRev_e, ↓mSplit_s, ↓mUpper_s, ↓exStr, ↓exZ, ↓cStrI_i, ↓cIntS_s, ↓iStrD_e, ↓dEqF_s, ↓dNeF_s, ↓dEqF_i, ↓dNeF_i, ↓dSign_s, ↓sRaiseI_e, ↓dXFld_e, ↓mPop_e, ↓dAddO_l, ↓dAddO_o, ↓dMk0_e, ↓sKeep_e, ↓sTryH_e, ↓dCVal_e, ↓dConI_e, ↓cLen_s, ↓dIx_s, ↓dSlS_s, ↓dAdd_s, ↓cTup_l, ↓pkP_e, ↓pkS_e, ↓lstG_e, ↓asI_i, ↓iSeq_e, ↓iTupD_e, ↓iRg1_e, ↓iRg2_e, ↓iZipD_e, iZrD_e, ↓iEnumD_e, ↓sFor_e, ↓dLc_e, ↓finF_e, ↓finO_e, ↓fzD_l, ↓fzD_i, ↓fzD_o, ↓fzD2_o, ↓dSetO_e, ↓mAppend_e, ↓mClear_e, ↓mReverse_e, List.map_cons, List.map_nil, List.length_cons, List.length_nil, rep_0, rep_s, List.cons_append, List.nil_append, List.getElem?_cons_zero, List.getElem?_cons_succ, List.set_cons_zero, List.set_cons_succ, Nat.reduceAdd, Nat.reduceSub, Nat.zero_add, Nat.add_zero, ↓exSS, ↓exB, ↓exI, ↓ex1, ↓ex2, ↓ex3, ↓exI1, ↓exI2, ↓exT, ↓exC, ↓exAs, ↓dAdd_i, ↓dAddI_i, ↓dSubI_i, ↓dLRg_e, ↓dIsiT_e, ↓dLenSet_e, ↓bChain3_e, ↓dLRg2_e, ↓iRg3_e, ↓dLc2_e, ↓dSlT_t, dAddT_t, ↓dNewK_e, ↓dDis1_e, ↓sDkp_e, ↓dDGet_e, ↓dDGet2_e, ↓dLVals_e, ↓kD_ex_i, ↓dSS_e, ↓dST_e, ↓dSI_e, ↓lsG_e, ↓dMulI_i, ↓dNew_e, ↓sDct_e, ↓dMulO_l, ↓dLRgO_e, ↓dAdd_l, ↓dSub_i, ↓dMul_i, ↓dMul_l, ↓dMod_i, ↓dDiv_i, ↓dPow_i, ↓dLt_i, ↓dLe_i, ↓dGt_i, ↓dGe_i, ↓uNeg_i, ↓cMax2_i, ↓cMin2_i, ↓cAbs_i, ↓cInt_i, ↓cInt_b, ↓cLen_l, ↓cLen_q, ↓cLen_t, ↓cList_l, ↓cList_q, ↓cList_t, ↓cListO_l, ↓cListO_t, ↓dIx_l, ↓dIx_q, ↓dIx_t, ↓dIx_o', ↓exS, ↓exL, at_1, at_2, at_3, at_4, ix30, ix31, ix32, ↓dSlL_l, ↓dSlL_q, ↓asQ_l, ↓asL_l, at_0, ↓isi_non_int, ↓isi_non_bool, ↓isi_non_str, ↓isi_non_list, ↓isi_non_tuple, ↓isi_non_dict, ↓isi_bl_int, ↓isi_bl_bool, ↓isi_bl_str, ↓isi_bl_list, ↓isi_bl_tuple, ↓isi_bl_dict, ↓isi_int_int, ↓isi_int_bool, ↓isi_int_str, ↓isi_int_list, ↓isi_int_tuple, ↓isi_int_dict, ↓isi_str_int, ↓isi_str_bool, ↓isi_str_str, ↓isi_str_list, ↓isi_str_tuple, ↓isi_str_dict, ↓isi_lst_int, ↓isi_lst_bool, ↓isi_lst_str, ↓isi_lst_list, ↓isi_lst_tuple, ↓isi_lst_dict, ↓isi_sq_int, ↓isi_sq_bool, ↓isi_sq_str, ↓isi_sq_list, ↓isi_sq_tuple, ↓isi_sq_dict, ↓isi_tup_int, ↓isi_tup_bool, ↓isi_tup_str, ↓isi_tup_list, ↓isi_tup_tuple, ↓isi_tup_dict, ↓isi_dic_int, ↓isi_dic_bool, ↓isi_dic_str, ↓isi_dic_list, ↓isi_dic_tuple, ↓isi_dic_dict, if_true, if_false, Bool.not_true, Bool.not_false, true_and, and_true, reduceCtorEq, Bool.true_eq_false, Bool.false_eq_true, ite_true, ite_false, ↓exAny, ↓isLst_l, Int.toNat_natCast, Int.reduceToNat, dVar_e, sPar_e, sPar3_e, sAug_e])))
local macro_rules | `(tactic| walk_at "dls") => `(tactic| ((try simp only [gstart, gwipe, List.set_set, List.map_cons, List.map_nil, List.length_cons, List.length_nil, rep_0, rep_s, List.cons_append, List.nil_append, List.set_cons_zero, List.set_cons_succ, Nat.reduceAdd, Nat.reduceSub, Nat.zero_add, Nat.add_zero]); (try simp only [*, ↓dv0, ↓dv1, ↓dv2, ↓dv3, ↓dv4, ↓dv5, ↓dv6, ↓dv7, ↓dv8, ↓dv9, ↓dv10, ↓dv11, ↓dv12, ↓dv13, ↓dv14, ↓dv15, ↓dv16, ↓dv17, ↓dv18, ↓dv19, ↓dv20, ↓dv21, ↓dv22, ↓dv23, ↓dv24, ↓dv25, ↓dv26, ↓dv27, ↓dv28, ↓dv29, ↓dv30, ↓dv31, ↓dv32, ↓dv33, ↓dv34, ↓dv35, ↓dv36, ↓dv37, ↓dv38, ↓dv39, ↓nm0, ↓nm1, ↓nm2, ↓nm3, ↓nm4, ↓nm5, ↓nm6, ↓nm7, ↓nm8, ↓nm9, ↓nm10, ↓nm11, ↓nm12, ↓nm13, ↓nm14, ↓nm15, ↓nm16, ↓nm17, ↓nm18, ↓nm19, ↓nm20, ↓nm21, ↓nm22, ↓nm23, ↓nm24, ↓nm25, ↓nm26, ↓nm27, ↓nm28, ↓nm29, ↓nm30, ↓nm31, ↓nm32, ↓nm33, ↓nm34, ↓nm35, ↓nm36, ↓nm37, ↓nm38, ↓nm39, ↓sPar_n, ↓sPar3_n, ↓sAug_n, ↓reduceIte, List.set_set, ↓sNext_e, ↓sSeq_e, ↓sBrk_e, ↓sCnt_e, ↓sDrop_e, ↓sRet_e, ↓sRetN_e, ↓sIf_e, ↓sAsg_e, ↓sRaise_e, ↓nmG_e, ↓tupG_e, ↓gsNil_e, ↓gsCons_e, ↓subG_e, ↓dC_e, ↓dOp_e, ↓dUn_e, ↓dChain_e, ↓bOf_e, ↓bAnd_e, ↓bOr_e, ↓bNot_e, ↓bYes_e, ↓dAnd_e, ↓dOr_e, ↓dNot_e, ↓dIf_e, ↓lNil_e, ↓lCons_e, ↓dLst_e, ↓dDic0_e, ↓dDic1_e, ↓dLenSetG_e, dIsB_b, dIsNB_b, dSD_e, ↓dLstO_e, ↓dTup_e, ↓dCB_e, ↓dCall_e, ↓dCallK_e, ↓oNone_e, ↓oSome_e, ↓dSl_e, ↓dBM_e, ↓dBM0_e, ↓dFz_e, ↓dFz2_e, ↓d2_e, ↓dLone_e, ↓lStar_e, ↓dCallA_e, ↓dMakeA_e, ↓dMakeV_e, ↓dMethA_e, ↓dCMethA_e, ↓dPropA_e, ↓dFld_e, ↓sFldS_e, ↓dFzI_e, ↓fzID_o, ↓dM1_e, ↓dM0_e, ↓dRev_e, ↓mSplit_s, ↓mUpper_s, ↓exStr, ↓exZ, ↓cStrI_i, ↓cIntS_s, ↓iStrD_e, ↓dEqF_s, ↓dNeF_s, ↓dEqF_i, ↓dNeF_i, ↓dSign_s, ↓sRaiseI_e, ↓dXFld_e, ↓mPop_e, ↓dAddO_l, ↓dAddO_o, ↓dMk0_e, ↓sKeep_e, ↓sTryH_e, ↓dCVal_e, ↓dConI_e, ↓cLen_s, ↓dIx_s, ↓dSlS_s, ↓dAdd_s, ↓cTup_l, ↓pkP_e, ↓pkS_e, ↓lstG_e, ↓asI_i, ↓iSeq_e, ↓iTupD_e, ↓iRg1_e, ↓iRg2_e, ↓iZipD_e, iZrD_e, ↓iEnumD_e, ↓sFor_e, ↓dLc_e, ↓finF_e, ↓finO_e, ↓fzD_l, ↓fzD_i, ↓fzD_o, ↓fzD2_o, ↓dSetO_e, ↓mAppend_e, ↓mClear_e, ↓mReverse_e, List.map_cons, List.map_nil, List.length_cons, List.length_nil, rep_0, rep_s, List.cons_append, List.nil_append, List.getElem?_cons_zero, List.getElem?_cons_succ, List.set_cons_zero, List.set_cons_succ, Nat.reduceAdd, Nat.reduceSub, Nat.zero_add, Nat.add_zero, ↓exSS, ↓exB, ↓exI, ↓ex1, ↓ex2, ↓ex3, ↓exI1, ↓exI2, ↓exT, ↓exC, ↓exAs, ↓dAdd_i, ↓dAddI_i, ↓dSubI_i, ↓dLRg_e, ↓dIsiT_e, ↓dLenSet_e, ↓bChain3_e, ↓dLRg2_e, ↓iRg3_e, ↓dLc2_e, ↓dSlT_t, dAddT_t, ↓dNewK_e, ↓dDis1_e, ↓sDkp_e, ↓dDGet_e, ↓dDGet2_e, ↓dLVals_e, ↓kD_ex_i, ↓dSS_e, ↓dST_e, ↓dSI_e, ↓lsG_e, ↓dMulI_i, ↓dNew_e, ↓sDct_e, ↓dMulO_l, ↓dLRgO_e, ↓dAdd_l, ↓dSub_i, ↓dMul_i, ↓dMul_l, ↓dMod_i, ↓dDiv_i, ↓dPow_i, ↓dLt_i, ↓dLe_i, ↓dGt_i, ↓dGe_i, ↓uNeg_i, ↓cMax2_i, ↓cMin2_i, ↓cAbs_i, ↓cInt_i, ↓cInt_b, ↓cLen_l, ↓cLen_q, ↓cLen_t, ↓cList_l, ↓cList_q, ↓cList_t, ↓cListO_l, ↓cListO_t, ↓dIx_l, ↓dIx_q, ↓dIx_t, ↓dIx_o', ↓exS, ↓exL, at_1, at_2, at_3, at_4, ix30, ix31, ix32, ↓dSlL_l, ↓dSlL_q, ↓asQ_l, ↓asL_l, at_0, ↓isi_non_int, ↓isi_non_bool, ↓isi_non_str, ↓isi_non_list, ↓isi_non_tuple, ↓isi_non_dict, ↓isi_bl_int, ↓isi_bl_bool, ↓isi_bl_str, ↓isi_bl_list, ↓isi_bl_tuple, ↓isi_bl_dict, ↓isi_int_int, ↓isi_int_bool, ↓isi_int_str, ↓isi_int_list, ↓isi_int_tuple, ↓isi_int_dict, ↓isi_str_int, ↓isi_str_bool, ↓isi_str_str, ↓isi_str_list, ↓isi_str_tuple, ↓isi_str_dict, ↓isi_lst_int, ↓isi_lst_bool, ↓isi_lst_str, ↓isi_lst_list, ↓isi_lst_tuple, ↓isi_lst_dict, ↓isi_sq_int, ↓isi_sq_bool, ↓isi_sq_str, ↓isi_sq_list, ↓isi_sq_tuple, ↓isi_sq_dict, ↓isi_tup_int, ↓isi_tup_bool, ↓isi_tup_str, ↓isi_tup_list, ↓isi_tup_tuple, ↓isi_tup_dict, ↓isi_dic_int, ↓isi_dic_bool, ↓isi_dic_str, ↓isi_dic_list, ↓isi_dic_tuple, ↓isi_dic_dict, if_true, if_false, Bool.not_true, Bool.not_false, true_and, and_true, reduceCtorEq, Bool.true_eq_false, Bool.false_eq_true, ite_true, ite_false, ↓exAny, ↓isLst_l, Int.toNat_natCast, Int.reduceToNat, dVar_e, sPar_e, sPar3_e, sAug_e])))
--MK
theorem p__law_sizes : Rets sp__law_sizes T__law_sizes N__law_sizes := by
  rintro _ S Φ Ψ ⟨h, b, n, t, w, rfl, nd, hn, ok, hw, hw2, q⟩
  have h1 := ok.lo
  have h60 := ok.hi
  unfold T__law_sizes
  walk_at "dl"
  refine lc_map t rowD (fun r => .int (r.length : Nat)) (small (by omega)) (fun r hr R hR => ?_) ?_
  · walk_at "dl"
    rw [List.length_map]
    exact hR
  walk_at "dl"
  refine ⟨t.map fun r => (r.length : Int), by rw [List.map_map]; rfl, by rw [List.length_map]; omega, fun mo hmo1 hmo2 => ?_⟩
  have hmo : 1 ≤ mo ∧ mo ≤ 12 := by
    obtain ⟨r, hr, e⟩ := List.mem_map.mp hmo1
    have := (ok.row r hr).lo
    have := (ok.row r hr).hi
    omega
  have hmr : ∀ r ∈ t, (r.length : Int) ≤ mo := fun r hr => hmo2 _ (List.mem_map.mpr ⟨r, hr, rfl⟩)
  walk_at "dl"
  refine ⟨h, b, n, 13 - mo, rfl, nd, by omega, by omega, by omega, fun S1 v1 nd1 f1 len1 a1 b1 => ⟨small (by decide), h, b, n + 1, 2, rfl, nd1, by omega, by decide, by decide, fun S2 v2 nd2 f2 len2 a2 b2 => ?_⟩⟩
  obtain ⟨z, hz, ez⟩ : ∃ z : Nat, (z : Int) ≤ 12 - mo ∧ atI [D.int 0, .int v1] v2 = some (.int (z : Int)) := by
    have hv : v2 = 0 ∨ v2 = 1 := by omega
    rcases hv with rfl | rfl
    · exact ⟨0, by omega, rfl⟩
    · exact ⟨v1.toNat, by omega, by show some (D.int v1) = _; rw [show (v1.toNat : Int) = v1 by omega]⟩
  refine ixl ez ?_
  refine lc_map t rowD (fun r => .int ((r.length : Int) + z)) (small (by omega)) (fun r hr R hR => ?_) ?_
  · walk_at "dl"
    rw [List.length_map]
    exact hR
  walk_at "dl"
  have hsum : ∀ y : Int, 0 ≤ y → 1 ≤ (t.map fun r => (r.length : Int) + y).sum := fun y hy => sum_one (fun r hr => by have := (ok.row r hr).lo; omega) (by intro e; rw [e] at h1; exact absurd h1 (by decide))
  have hsum2 : ∀ y : Int, 0 ≤ y → y ≤ 12 → (t.map fun r => (r.length : Int) + y).sum < 100000 := fun y hy hy2 => by
    have := sum_le_all (f := fun r : List Int => (r.length : Int) + y) (B := 24) (xs := t) fun r hr => by have := (ok.row r hr).hi; omega
    omega
  have hsum3 : (t.map fun r => (r.length : Int)).sum < 100000 := by
    have := sum_le_all (f := fun r : List Int => (r.length : Int)) (B := 24) (xs := t) fun r hr => by have := (ok.row r hr).hi; omega
    omega
  have hsum0 : 1 ≤ (t.map fun r => (r.length : Int)).sum := sum_one (fun r hr => by have := (ok.row r hr).lo; omega) (by intro e; rw [e] at h1; exact absurd h1 (by decide))
  refine ⟨t.map fun r => (r.length : Int) + z, by rw [List.map_map]; rfl, ?_⟩
  refine (?_ : ∀ E : EdD, (∀ (zz : Nat) (hs : Int), (zz : Int) ≤ 12 - mo → 1 ≤ hs → hs < 100000 → E.nx [some (D.own h), some (tabD t), some (D.int w), some (D.int mo), some (D.int zz), some (.int hs), none, none] S2) → sJ _ E _ S2) _ ?_
  · intro E hE
    rw [sJ_e]
    walk_at "dl"
    by_cases c : w < (t.map fun r => (r.length : Int) + z).sum
    · rw [if_pos (decide_eq_true c)]
      refine lc_map t rowD (fun r => .int (r.length : Nat)) (small (by omega)) (fun r hr R hR => ?_) ?_
      · walk_at "dl"
        rw [List.length_map]
        exact hR
      walk_at "dl"
      exact ⟨t.map fun r => (r.length : Int), by rw [List.map_map]; rfl, small (by decide), hE 0 _ (by omega) hsum0 hsum3⟩
    · rw [if_neg (by rw [decide_eq_true_eq]; exact c)]
      exact hE z _ hz (hsum z (by omega)) (hsum2 z (by omega) (by omega))
  · intro zz hs hzz hhs hhs2
    walk_at "dl"
    rw [List.length_map]
    refine ⟨wide_div (b := 40) (by omega) (by omega) (by decide) (by decide), wide_div (b := 40) (by omega) (by omega) (by decide) (by decide), ?_⟩
    have d1 : (60 : Int) / t.length * t.length ≤ 60 := Int.ediv_mul_le _ (by omega)
    have d0 : 0 ≤ (60 : Int) / t.length := Int.ediv_nonneg (by decide) (by omega)
    have d2 : (60 : Int) / t.length ≤ 60 := Int.ediv_le_self _ (by decide)
    generalize (60 : Int) / t.length = dd at *
    generalize w / hs = ee at *
    obtain ⟨mm, em, m1, m2, m3⟩ : ∃ mm : Int, (if (if ee < dd then ee else dd) > 1 then if ee < dd then ee else dd else 1) = mm ∧ 1 ≤ mm ∧ mm ≤ 60 ∧ mm * t.length ≤ 60 := by
      refine ⟨_, rfl, ?_⟩
      by_cases c : ee < dd
      · rw [if_pos c]
        by_cases c2 : ee > 1
        · rw [if_pos c2]
          exact ⟨by omega, by omega, Int.le_trans (Int.mul_le_mul_of_nonneg_right (by omega) (by omega)) d1⟩
        · rw [if_neg c2]
          exact ⟨by omega, by omega, by omega⟩
      · rw [if_neg c]
        by_cases c2 : dd > 1
        · rw [if_pos c2]
          exact ⟨by omega, by omega, d1⟩
        · rw [if_neg c2]
          exact ⟨by omega, by omega, by omega⟩
    rw [em]
    refine ⟨h, b, _, mm, rfl, nd2, by omega, by omega, by omega, fun S3 v3 nd3 f3 len3 a3 b3 => ?_⟩
    walk_at "dl"
    refine ⟨cpw (by decide) (by decide) (by decide), cpw (by decide) (by decide) (by decide), cpw (by decide) (by decide) (by decide), h, b, _, _, rfl, nd3, by omega, by decide, by decide, fun S4 v4 nd4 f4 len4 a4 b4 => ?_⟩
    walk_at "dl"
    refine ⟨small (by decide), h, b, _, 4, rfl, nd4, by omega, by decide, by decide, fun S5 v5 nd5 f5 len5 a5 b5 => ?_⟩
    obtain ⟨f, hf0, hf1, ef⟩ : ∃ f : Int, 1 ≤ f ∧ f ≤ 10 ^ 29 ∧ atI [D.int 1, .int 3, .int (10 ^ 29), .int (10 ^ 29 - v4)] v5 = some (.int f) := by
      have hv : v5 = 0 ∨ v5 = 1 ∨ v5 = 2 ∨ v5 = 3 := by omega
      rcases hv with rfl | rfl | rfl | rfl
      · exact ⟨1, by decide, by decide, rfl⟩
      · exact ⟨3, by decide, by decide, rfl⟩
      · exact ⟨10 ^ 29, by decide, by decide, rfl⟩
      · exact ⟨10 ^ 29 - v4, by omega, by omega, rfl⟩
    refine ixl ef ⟨small (by decide), ?_⟩
    have := q S5 (1 + v3).toNat zz f (nd5.more (by omega)) (f1.trans (f2.trans (f3.trans (f4.trans f5)))) (by omega) (by
      have e1 : ((1 + v3).toNat : Int) * t.length ≤ mm * t.length := Int.mul_le_mul_of_nonneg_right (by omega) (by omega)
      have e2 : (((1 + v3).toNat * t.length : Nat) : Int) ≤ 60 := by rw [Int.natCast_mul]; omega
      omega) hf0 hf1 (fun r hr => by have := hmr r hr; omega)
    rw [show (((1 + v3).toNat : Nat) : Int) = 1 + v3 by omega] at this
    exact ret_now this
end DL
namespace DL
open PySem PySem.Spec PyProof.Rows L2
local macro_rules | `(tactic| walk_at "dl") => `(tactic| ((try simp only [gstart, gwipe, List.set_set, List.map_cons, List.map_nil, List.length_cons, List.length_nil, rep_0, rep_s, List.cons_append, List.nil_append, List.set_cons_zero, List.set_cons_succ, Nat.reduceAdd, Nat.reduceSub, Nat.zero_add, Nat.add_zero]); (try simp only [↓dv0, ↓dv1, ↓dv2, ↓dv3, ↓dv4, ↓dv5, ↓dv6, ↓dv7, ↓dv8, ↓dv9, ↓dv10, ↓dv11, ↓dv12, ↓dv13, ↓dv14, ↓dv15, ↓dv16, ↓dv17, ↓dv18, ↓dv19, ↓dv20, ↓dv21, ↓dv22, ↓dv23, ↓dv24, ↓dv25, ↓dv26, ↓dv27, ↓dv28, ↓dv29, ↓dv30, ↓dv31, ↓dv32, ↓dv33, ↓dv34, ↓dv35, ↓dv36, ↓dv37, ↓dv38, ↓dv39, ↓nm0, ↓nm1, ↓nm2, ↓nm3, ↓nm4, ↓nm5, ↓nm6, ↓nm7, ↓nm8, ↓nm9, ↓nm10, ↓nm11, ↓nm12, ↓nm13, ↓nm14, ↓nm15, ↓nm16, ↓nm17, ↓nm18, ↓nm19, ↓nm20, ↓nm21, ↓nm22, ↓nm23, ↓nm24, ↓nm25, ↓nm26, ↓nm27, ↓nm28, ↓nm29, ↓nm30, ↓nm31, ↓nm32, ↓nm33, ↓nm34, ↓nm35, ↓nm36, ↓nm37, ↓nm38, ↓nm39, ↓sPar_n, ↓sPar3_n, ↓sAug_n, ↓reduceIte, List.set_set, ↓sNext_e, ↓sSeq_e, ↓sBrk_e, ↓sCnt_e, ↓sDrop_e, ↓sRet_e, ↓sRetN_e, ↓sIf_e, ↓sAsg_e, ↓sRaise_e, ↓nmG_e, ↓tupG_e, ↓gsNil_e, ↓gsCons_e, ↓subG_e, ↓dC_e, ↓dOp_e, ↓dUn_e, ↓dChain_e, ↓bOf_e, ↓bAnd_e, ↓bOr_e, ↓bNot_e, ↓bYes_e, ↓dAnd_e, ↓dOr_e, ↓dNot_e, ↓dIf_e, ↓lNil_e, ↓lCons_e, ↓dLst_e, ↓dDic0_e, ↓dDic1_e, ↓dLenSetG_e, dIsB_b, dIsNB_b, dSD_e, ↓dLstO_e, ↓dTup_e, ↓dCB_e, ↓dCall_e, ↓dCallK_e, ↓oNone_e, ↓oSome_e, ↓dSl_e, ↓dBM_e, ↓dBM0_e, ↓dFz_e, ↓dFz2_e, ↓d2_e, ↓dLone_e, ↓lStar_e, ↓dCallA_e, ↓dMakeA_e, ↓dMakeV_e, ↓dMethA_e, ↓dCMethA_e, ↓dPropA_e, ↓dFld_e, ↓sFldS_e, ↓dFzI_e, ↓fzID_o, ↓dM1_e, ↓dM0_e, ↓dRev_e, ↓mSplit_s, ↓mUpper_s, ↓exStr, ↓exZ, ↓cStrI_i, ↓cIntS_s, ↓iStrD_e, ↓dEqF_s, ↓dNeF_s, ↓dEqF_i, ↓dNeF_i, ↓dSign_s, ↓sRaiseI_e, ↓dXFld_e, ↓mPop_e, ↓dAddO_l, ↓dAddO_o, ↓dMk0_e, ↓sKeep_e, ↓sTryH_e, ↓dCVal_e, ↓dConI_e, ↓cLen_s, ↓dIx_s, ↓dSlS_s, ↓dAdd_s, ↓cTup_l, ↓pkP_e, ↓pkS_e, ↓lstG_e, ↓asI_i, ↓iSeq_e, ↓iTupD_e, ↓iRg1_e, ↓iRg2_e, ↓iZipD_e, iZrD_e, ↓iEnumD_e, ↓sFor_e, ↓dLc_e, ↓finF_e, ↓finO_e, ↓fzD_l, ↓fzD_i, ↓fzD_o, ↓fzD2_o, ↓dSetO_e, ↓mAppend_e, ↓mClear_e, ↓mReverse_e, List.map_cons, List.map_nil, List.length_cons, List.length_nil, rep_0, rep_s, List.cons_append, List.nil_append, List.getElem?_cons_zero, List.getElem?_cons_succ, List.set_cons_zero, List.set_cons_succ, Nat.reduceAdd, Nat.reduceSub, Nat.zero_add, Nat.add_zero, ↓exSS, ↓exB, ↓exI, ↓ex1, ↓ex2, ↓ex3, ↓exI1, ↓exI2, ↓exT, ↓exC, ↓exAs, ↓dAdd_i, ↓dAddI_i, ↓dSubI_i, ↓dLRg_e, ↓dIsiT_e, ↓dLenSet_e, ↓bChain3_e, ↓dLRg2_e, ↓iRg3_e, ↓dLc2_e, ↓dSlT_t, dAddT_t, ↓dNewK_e, ↓dDis1_e, ↓sDkp_e, ↓dDGet_e, ↓dDGet2_e, ↓dLVals_e, ↓kD_ex_i, ↓dSS_e, ↓dST_e, ↓dSI_e, ↓lsG_e, ↓dMulI_i, ↓dNew_e, ↓sDct_e, ↓dMulO_l, ↓dLRgO_e, ↓dAdd_l, ↓dSub_i, ↓dMul_i, ↓dMul_l, ↓dMod_i, ↓dDiv_i, ↓dPow_i, ↓dLt_i, ↓dLe_i, ↓dGt_i, ↓dGe_i, ↓uNeg_i, ↓cMax2_i, ↓cMin2_i, ↓cAbs_i, ↓cInt_i, ↓cInt_b, ↓cLen_l, ↓cLen_q, ↓cLen_t, ↓cList_l, ↓cList_q, ↓cList_t, ↓cListO_l, ↓cListO_t, ↓dIx_l, ↓dIx_q, ↓dIx_t, ↓dIx_o', ↓exS, ↓exL, at_1, at_2, at_3, at_4, ix30, ix31, ix32, ↓dSlL_l, ↓dSlL_q, ↓asQ_l, ↓asL_l, at_0, ↓isi_non_int, ↓isi_non_bool, ↓isi_non_str, ↓isi_non_list, ↓isi_non_tuple, ↓isi_non_dict, ↓isi_bl_int, ↓isi_bl_bool, ↓isi_bl_str, ↓isi_bl_list, ↓isi_bl_tuple, ↓isi_bl_dict, ↓isi_int_int, ↓isi_int_bool, ↓isi_int_str, ↓isi_int_list, ↓isi_int_tuple, ↓isi_int_dict, ↓isi_str_int, ↓isi_str_bool, ↓isi_str_str, ↓isi_str_list, ↓isi_str_tuple, ↓isi_str_dict, ↓isi_lst_int, ↓isi_lst_bool, ↓isi_lst_str, ↓isi_lst_list, ↓isi_lst_tuple, ↓isi_lst_dict, ↓isi_sq_int, ↓isi_sq_bool, ↓isi_sq_str, ↓isi_sq_list, ↓isi_sq_tuple, ↓isi_sq_dict, ↓isi_tup_int, ↓isi_tup_bool, ↓isi_tup_str, ↓isi_tup_list, ↓isi_tup_tuple, ↓isi_tup_dict, ↓isi_dic_int, ↓isi_dic_bool, ↓isi_dic_str, ↓isi_dic_list, ↓isi_dic_tuple, ↓isi_dic_dict, if_true, if_false, Bool.not_true, Bool.not_false, true_and, and_true, reduceCtorEq, Bool.true_eq_false, Bool.false_eq_true, ite_true, ite_false, ↓exAny, ↓isLst_l, Int.toNat_natCast, Int.reduceToNat, dVar_e, sPar_e, sPar3_e, sAug_e])))
local macro_rules | `(tactic| walk_at "dls") => `(tactic| ((try simp only [gstart, gwipe, List.set_set, List.map_cons, List.map_nil, List.length_cons, List.length_nil, rep_0, rep_s, List.cons_append, List.nil_append, List.set_cons_zero, List.set_cons_succ, Nat.reduceAdd, Nat.reduceSub, Nat.zero_add, Nat.add_zero]); (try simp only [*, ↓dv0, ↓dv1, ↓dv2, ↓dv3, ↓dv4, ↓dv5, ↓dv6, ↓dv7, ↓dv8, ↓dv9, ↓dv10, ↓dv11, ↓dv12, ↓dv13, ↓dv14, ↓dv15, ↓dv16, ↓dv17, ↓dv18, ↓dv19, ↓dv20, ↓dv21, ↓dv22, ↓dv23, ↓dv24, ↓dv25, ↓dv26, ↓dv27, ↓dv28, ↓dv29, ↓dv30, ↓dv31, ↓dv32, ↓dv33, ↓dv34, ↓dv35, ↓dv36, ↓dv37, ↓dv38, ↓dv39, ↓nm0, ↓nm1, ↓nm2, ↓nm3, ↓nm4, ↓nm5, ↓nm6, ↓nm7, ↓nm8, ↓nm9, ↓nm10, ↓nm11, ↓nm12, ↓nm13, ↓nm14, ↓nm15, ↓nm16, ↓nm17, ↓nm18, ↓nm19, ↓nm20, ↓nm21, ↓nm22, ↓nm23, ↓nm24, ↓nm25, ↓nm26, ↓nm27, ↓nm28, ↓nm29, ↓nm30, ↓nm31, ↓nm32, ↓nm33, ↓nm34, ↓nm35, ↓nm36, ↓nm37, ↓nm38, ↓nm39, ↓sPar_n, ↓sPar3_n, ↓sAug_n, ↓reduceIte, List.set_set, ↓sNext_e, ↓sSeq_e, ↓sBrk_e, ↓sCnt_e, ↓sDrop_e, ↓sRet_e, ↓sRetN_e, ↓sIf_e, ↓sAsg_e, ↓sRaise_e, ↓nmG_e, ↓tupG_e, ↓gsNil_e, ↓gsCons_e, ↓subG_e, ↓dC_e, ↓dOp_e, ↓dUn_e, ↓dChain_e, ↓bOf_e, ↓bAnd_e, ↓bOr_e, ↓bNot_e, ↓bYes_e, ↓dAnd_e, ↓dOr_e, ↓dNot_e, ↓dIf_e, ↓lNil_e, ↓lCons_e, ↓dLst_e, ↓dDic0_e, ↓dDic1_e, ↓dLenSetG_e, dIsB_b, dIsNB_b, dSD_e, ↓dLstO_e, ↓dTup_e, ↓dCB_e, ↓dCall_e, ↓dCallK_e, ↓oNone_e, ↓oSome_e, ↓dSl_e, ↓dBM_e, ↓dBM0_e, ↓dFz_e, ↓dFz2_e, ↓d2_e, ↓dLone_e, ↓lStar_e, ↓dCallA_e, ↓dMakeA_e, ↓dMakeV_e, ↓dMethA_e, ↓dCMethA_e, ↓dPropA_e, ↓dFld_e, ↓sFldS_e, ↓dFzI_e, ↓fzID_o, ↓dM1_e, ↓dM0_e, ↓dRev_e, ↓mSplit_s, ↓mUpper_s, ↓exStr, ↓exZ, ↓cStrI_i, ↓cIntS_s, ↓iStrD_e, ↓dEqF_s, ↓dNeF_s, ↓dEqF_i, ↓dNeF_i, ↓dSign_s, ↓sRaiseI_e, ↓dXFld_e, ↓mPop_e, ↓dAddO_l, ↓dAddO_o, ↓dMk0_e, ↓sKeep_e, ↓sTryH_e, ↓dCVal_e, ↓dConI_e, ↓cLen_s, ↓dIx_s, ↓dSlS_s, ↓dAdd_s, ↓cTup_l, ↓pkP_e, ↓pkS_e, ↓lstG_e, ↓asI_i, ↓iSeq_e, ↓iTupD_e, ↓iRg1_e, ↓iRg2_e, ↓iZipD_e, iZrD_e, ↓iEnumD_e, ↓sFor_e, ↓dLc_e, ↓finF_e, ↓finO_e, ↓fzD_l, ↓fzD_i, ↓fzD_o, ↓fzD2_o, ↓dSetO_e, ↓mAppend_e, ↓mClear_e, ↓mReverse_e, List.map_cons, List.map_nil, List.length_cons, List.length_nil, rep_0, rep_s, List.cons_append, List.nil_append, List.getElem?_cons_zero, List.getElem?_cons_succ, List.set_cons_zero, List.set_cons_succ, Nat.reduceAdd, Nat.reduceSub, Nat.zero_add, Nat.add_zero, ↓exSS, ↓exB, ↓exI, ↓ex1, ↓ex2, ↓ex3, ↓exI1, ↓exI2, ↓exT, ↓exC, ↓exAs, ↓dAdd_i, ↓dAddI_i, ↓dSubI_i, ↓dLRg_e, ↓dIsiT_e, ↓dLenSet_e, ↓bChain3_e, ↓dLRg2_e, ↓iRg3_e, ↓dLc2_e, ↓dSlT_t, dAddT_t, ↓dNewK_e, ↓dDis1_e, ↓sDkp_e, ↓dDGet_e, ↓dDGet2_e, ↓dLVals_e, ↓kD_ex_i, ↓dSS_e, ↓dST_e, ↓dSI_e, ↓lsG_e, ↓dMulI_i, ↓dNew_e, ↓sDct_e, ↓dMulO_l, ↓dLRgO_e, ↓dAdd_l, ↓dSub_i, ↓dMul_i, ↓dMul_l, ↓dMod_i, ↓dDiv_i, ↓dPow_i, ↓dLt_i, ↓dLe_i, ↓dGt_i, ↓dGe_i, ↓uNeg_i, ↓cMax2_i, ↓cMin2_i, ↓cAbs_i, ↓cInt_i, ↓cInt_b, ↓cLen_l, ↓cLen_q, ↓cLen_t, ↓cList_l, ↓cList_q, ↓cList_t, ↓cListO_l, ↓cListO_t, ↓dIx_l, ↓dIx_q, ↓dIx_t, ↓dIx_o', ↓exS, ↓exL, at_1, at_2, at_3, at_4, ix30, ix31, ix32, ↓dSlL_l, ↓dSlL_q, ↓asQ_l, ↓asL_l, at_0, ↓isi_non_int, ↓isi_non_bool, ↓isi_non_str, ↓isi_non_list, ↓isi_non_tuple, ↓isi_non_dict, ↓isi_bl_int, ↓isi_bl_bool, ↓isi_bl_str, ↓isi_bl_list, ↓isi_bl_tuple, ↓isi_bl_dict, ↓isi_int_int, ↓isi_int_bool, ↓isi_int_str, ↓isi_int_list, ↓isi_int_tuple, ↓isi_int_dict, ↓isi_str_int, ↓isi_str_bool, ↓isi_str_str, ↓isi_str_list, ↓isi_str_tuple, ↓isi_str_dict, ↓isi_lst_int, ↓isi_lst_bool, ↓isi_lst_str, ↓isi_lst_list, ↓isi_lst_tuple, ↓isi_lst_dict, ↓isi_sq_int, ↓isi_sq_bool, ↓isi_sq_str, ↓isi_sq_list, ↓isi_sq_tuple, ↓isi_sq_dict, ↓isi_tup_int, ↓isi_tup_bool, ↓isi_tup_str, ↓isi_tup_list, ↓isi_tup_tuple, ↓isi_tup_dict, ↓isi_dic_int, ↓isi_dic_bool, ↓isi_dic_str, ↓isi_dic_list, ↓isi_dic_tuple, ↓isi_dic_dict, if_true, if_false, Bool.not_true, Bool.not_false, true_and, and_true, reduceCtorEq, Bool.true_eq_false, Bool.false_eq_true, ite_true, ite_false, ↓exAny, ↓isLst_l, Int.toNat_natCast, Int.reduceToNat, dVar_e, sPar_e, sPar3_e, sAug_e])))
--MK
theorem sum_perm_rev {α : Type} (f : α → Int) (xs : List α) : (xs.reverse.map f).sum = (xs.map f).sum := by
  induction xs with
  | nil => rfl
  | cons x xs ih => rw [List.reverse_cons, List.map_append, List.sum_append, ih, List.map_cons, List.sum_cons]; simp; omega
theorem sumP_rev (ps : List (Int × Int × Int)) (w : Int) : sumP ps.reverse w = sumP ps w := sum_perm_rev _ ps
theorem sumP_go : ∀ (xs : Steps) (h w : Int), sumP (piecesGo h xs) w = priceG h xs w
  | [], _, _ => rfl
  | (c, s) :: xs, h, w => by
    have := sumP_go xs (h - c) w
    show s * max 0 (h - max (h - c) w) + sumP (piecesGo (h - c) xs) w = _
    rw [this]
    rfl
theorem sumP_pieces (cu : Curve) (w : Int) : sumP (piecesF cu) w = priceG cu.1 cu.2 w := by
  unfold piecesF
  rw [sumP_rev, sumP_go]
theorem price_le {B : Int} : ∀ (xs : Steps) (h w : Int), (∀ p ∈ xs, 1 ≤ p.2 ∧ p.2 ≤ B ∧ 1 ≤ p.1) → priceG h xs w ≤ B * tot xs
  | [], _, _, _ => by show (0 : Int) ≤ B * 0; omega
  | (c, s) :: xs, h, w, hs => by
    have h1 := price_le xs (h - c) w fun p hp => hs p (List.mem_cons_of_mem _ hp)
    obtain ⟨s1, s2, c1⟩ := hs (c, s) List.mem_cons_self
    have s1 : (1 : Int) ≤ s := s1
    have s2 : s ≤ B := s2
    have c1 : (1 : Int) ≤ c := c1
    have h2 : s * max 0 (h - max (h - c) w) ≤ s * c := Int.mul_le_mul_of_nonneg_left (by omega) (by omega)
    have h3 : s * c ≤ B * c := Int.mul_le_mul_of_nonneg_right s2 (by omega)
    show s * max 0 (h - max (h - c) w) + priceG (h - c) xs w ≤ B * (c + tot xs)
    rw [Int.mul_add]
    omega
theorem go_in : ∀ (xs : Steps) (h : Int), (∀ p ∈ xs, 1 ≤ p.1) → ∀ q ∈ piecesGo h xs, h - tot xs ≤ q.1 ∧ q.1 < q.2.1 ∧ q.2.1 ≤ h ∧ ∃ p ∈ xs, p.2 = q.2.2
  | [], _, _, q, hq => nomatch hq
  | (c, s) :: xs, h, hc, q, hq => by
    have c1 : (1 : Int) ≤ c := hc (c, s) List.mem_cons_self
    have hc' : ∀ p ∈ xs, 1 ≤ p.1 := fun p hp => hc p (List.mem_cons_of_mem _ hp)
    have ht0 : 0 ≤ tot xs := sum_nn fun p hp => by have := hc' p hp; omega
    have ht : tot ((c, s) :: xs) = c + tot xs := rfl
    rw [ht]
    rcases List.mem_cons.mp hq with rfl | hq
    · exact ⟨by show h - (c + tot xs) ≤ h - c; omega, by show h - c < h; omega, Int.le_refl _, _, List.mem_cons_self, rfl⟩
    · obtain ⟨a, b, c, p, hp, e⟩ := go_in xs (h - c) hc' q hq
      exact ⟨by omega, b, by omega, p, List.mem_cons_of_mem _ hp, e⟩
/-- the pieces hang together, from high to low -/
theorem go_chain : ∀ (xs : Steps) (h : Int), xs.Pairwise (fun a b => a.2 < b.2) → ∀ i a b, (piecesGo h xs)[i]? = some a → (piecesGo h xs)[i + 1]? = some b → b.2.1 = a.1 ∧ a.2.2 < b.2.2
  | [], _, _, i, a, b, h1, _ => by simp [piecesGo] at h1
  | [(c, s)], h, _, i, a, b, _, h2 => by simp [piecesGo] at h2
  | (c, s) :: (c2, s2) :: xs, h, hp, 0, a, b, h1, h2 => by
    have e1 : (h - c, h, s) = a := Option.some.inj h1
    have e2 : (h - c - c2, h - c, s2) = b := Option.some.inj h2
    subst e1 e2
    exact ⟨rfl, (List.pairwise_cons.mp hp).1 (c2, s2) List.mem_cons_self⟩
  | (c, s) :: (c2, s2) :: xs, h, hp, i + 1, a, b, h1, h2 => go_chain ((c2, s2) :: xs) (h - c) (List.pairwise_cons.mp hp).2 i a b h1 h2
theorem go_last : ∀ (xs : Steps) (h : Int), xs ≠ [] → ∃ a, (piecesGo h xs)[(piecesGo h xs).length - 1]? = some a ∧ a.1 = h - tot xs
  | [], _, hn => absurd rfl hn
  | [(c, s)], h, _ => ⟨(h - c, h, s), rfl, by show h - c = h - (c + 0); omega⟩
  | (c, s) :: (c2, s2) :: xs, h, _ => by
    obtain ⟨a, e1, e2⟩ := go_last ((c2, s2) :: xs) (h - c) (by simp)
    refine ⟨a, ?_, ?_⟩
    · have : (piecesGo h ((c, s) :: (c2, s2) :: xs)).length - 1 = (piecesGo (h - c) ((c2, s2) :: xs)).length - 1 + 1 := by
        show (piecesGo (h - c) ((c2, s2) :: xs)).length + 1 - 1 = _
        rw [pieces_len, List.length_cons]
        omega
      rw [this]
      exact e1
    · rw [e2]
      show h - c - tot ((c2, s2) :: xs) = h - (c + tot ((c2, s2) :: xs))
      omega
section
variable {cu : Curve} (st : StOk cu.2)
include st
theorem pieces_chain (i : Nat) (a b : Int × Int × Int) (h1 : (piecesF cu)[i]? = some a) (h2 : (piecesF cu)[i + 1]? = some b) : a.2.1 = b.1 ∧ b.2.2 < a.2.2 := by
  have hl := pieces_len cu.2 cu.1
  unfold piecesF at h1 h2
  have hi := (List.getElem?_eq_some_iff.mp h2).1
  rw [List.length_reverse] at hi
  rw [List.getElem?_reverse (by omega)] at h1
  rw [List.getElem?_reverse hi] at h2
  exact go_chain cu.2 cu.1 st.rise _ b a h2 (by rw [show (piecesGo cu.1 cu.2).length - 1 - (i + 1) + 1 = (piecesGo cu.1 cu.2).length - 1 - i by omega]; exact h1)
theorem pieces_first (hn : cu.2 ≠ []) : ∃ a, (piecesF cu)[0]? = some a ∧ a.1 = bottomF cu := by
  obtain ⟨a, e1, e2⟩ := go_last cu.2 cu.1 hn
  refine ⟨a, ?_, e2⟩
  unfold piecesF
  have : 0 < (piecesGo cu.1 cu.2).length := by
    rw [pieces_len]
    exact List.length_pos_iff.mpr hn
  rw [List.getElem?_reverse this]
  exact e1
theorem pieces_end (hn : cu.2 ≠ []) : ∃ a, (piecesF cu)[(piecesF cu).length - 1]? = some a ∧ a.2.1 = cu.1 := by
  obtain ⟨x, xs, e⟩ := List.exists_cons_of_ne_nil hn
  obtain ⟨c, s⟩ := x
  refine ⟨(cu.1 - c, cu.1, s), ?_, rfl⟩
  unfold piecesF
  rw [List.length_reverse, List.getElem?_reverse (by rw [pieces_len]; have := List.length_pos_iff.mpr hn; omega)]
  rw [e]
  rw [show (piecesGo cu.1 ((c, s) :: xs)).length - 1 - ((piecesGo cu.1 ((c, s) :: xs)).length - 1) = 0 by omega]
  rfl
theorem pieces_in (q : Int × Int × Int) (hq : q ∈ piecesF cu) : bottomF cu ≤ q.1 ∧ q.1 < q.2.1 ∧ q.2.1 ≤ cu.1 ∧ ∃ p ∈ cu.2, p.2 = q.2.2 := go_in cu.2 cu.1 st.many q (List.mem_reverse.mp hq)
theorem bottom_le : bottomF cu ≤ cu.1 := by have := st.tot0; show cu.1 - tot cu.2 ≤ _; omega
theorem width_is {n : Int} (hn : 0 ≤ n) : (bottomF cu ≤ widthForF cu n ∧ widthForF cu n ≤ cu.1) ∧ sumP (piecesF cu) (widthForF cu n) ≤ n ∧ (bottomF cu < widthForF cu n → n < sumP (piecesF cu) (widthForF cu n - 1)) := by
  rw [sumP_pieces, sumP_pieces]
  exact greedy cu.2 cu.1 n st.slope st.many hn
theorem width_anti {n m : Int} (hn : 0 ≤ n) (h : n ≤ m) : widthForF cu m ≤ widthForF cu n := by
  obtain ⟨⟨a1, a2⟩, a3, a4⟩ := width_is st hn
  obtain ⟨⟨b1, b2⟩, b3, b4⟩ := width_is st (n := m) (by omega)
  rcases Int.lt_or_le (widthForF cu n) (widthForF cu m) with g | g
  · have := b4 (by omega)
    have := price_anti cu.2 cu.1 (widthForF cu m - 1) (widthForF cu n) st.slope (by omega)
    rw [← sumP_pieces, ← sumP_pieces] at this
    omega
  · exact g
theorem width_zero : widthForF cu 0 = cu.1 := by
  obtain ⟨⟨a1, a2⟩, a3, a4⟩ := width_is st (Int.le_refl 0)
  unfold widthForF
  obtain ⟨top, xs⟩ := cu
  cases xs with
  | nil => rfl
  | cons x xs =>
    obtain ⟨c, s⟩ := x
    have c1 : (1 : Int) ≤ c := st.many (c, s) List.mem_cons_self
    have em : minQ c (0 / s) = 0 := by
      unfold minQ
      rw [Int.zero_ediv]
      split <;> omega
    show (if minQ c (0 / s) < c then top - minQ c (0 / s) else _) = top
    rw [em, if_pos (by omega)]
    omega
theorem width_most : widthForF cu (sumP (piecesF cu) (bottomF cu)) = bottomF cu := by
  have h0 : 0 ≤ sumP (piecesF cu) (bottomF cu) := by rw [sumP_pieces]; exact price_nn cu.2 cu.1 _ st.slope
  obtain ⟨⟨a1, a2⟩, a3, a4⟩ := width_is st h0
  rcases Int.lt_or_le (bottomF cu) (widthForF cu (sumP (piecesF cu) (bottomF cu))) with g | g
  · have := a4 g
    have := price_anti cu.2 cu.1 (widthForF cu (sumP (piecesF cu) (bottomF cu)) - 1) (bottomF cu) st.slope (by omega)
    rw [← sumP_pieces, ← sumP_pieces] at this
    omega
  · omega
end
def pieceP (p : Int × Int × Int) : PyData := .tuple [.int p.1, .int p.2.1, .int p.2.2]
theorem pyr_pieces {S : Sto} (ps : List (Int × Int × Int)) : PyR S (.lst (ps.map pieceD)) (.list (ps.map pieceP)) :=
  .lst (pyra_map (fun p => .tup (.cons (.int _) (.cons (.int _) (.cons (.int _) .nil)))) ps)
theorem shaped_pieces (ps : List (Int × Int × Int)) : SeqAt.shaped (.list (ps.map pieceP)) = true := by
  have h1 : ∀ ps : List (Int × Int × Int), PyData.canLayAll0 (ps.map pieceP) = true := fun ps => by
    induction ps with
    | nil => rw [List.map_nil, PyData.canLayAll0]
    | cons x xs ih => rw [List.map_cons, PyData.canLayAll0, pieceP, PyData.canLay0, PyData.canLayAll0, PyData.canLayAll0, PyData.canLayAll0, PyData.canLayAll0, PyData.canLay0, PyData.canLay0, PyData.canLay0, ih]; rfl
  have h2 : ∀ ps : List (Int × Int × Int), PyData.depthAll (ps.map pieceP) ≤ 1 := fun ps => by
    induction ps with
    | nil => rw [List.map_nil, PyData.depthAll]; omega
    | cons x xs ih => rw [List.map_cons, PyData.depthAll, pieceP, PyData.depth, PyData.depthAll, PyData.depthAll, PyData.depthAll, PyData.depthAll, PyData.depth, PyData.depth, PyData.depth]; omega
  unfold SeqAt.shaped
  rw [PyData.canLay0, h1, PyData.depth]
  have := h2 ps
  simp
  omega
theorem ne_pieces {S : Sto} {Φ : KD} {ps : List (Int × Int × Int)} (h : Φ S (.bl (!decide (ps = [])))) : dNe (.lst (ps.map pieceD)) (.lst []) S Φ := by
  refine ⟨.list (ps.map pieceP), .list [], pyr_pieces ps, .lst .nil, shaped_pieces ps, by decide, ?_⟩
  cases ps with
  | nil => exact h
  | cons a b => exact h
theorem eq_pieces {S : Sto} {Φ : KD} {ps : List (Int × Int × Int)} (h : Φ S (.bl (decide (ps = [])))) : dEq (.lst (ps.map pieceD)) (.lst []) S Φ := by
  refine ⟨.list (ps.map pieceP), .list [], pyr_pieces ps, .lst .nil, shaped_pieces ps, by decide, ?_⟩
  cases ps with
  | nil => exact h
  | cons a b => exact h
end DL
namespace DL
open PySem PySem.Spec PyProof.Rows L2
local macro_rules | `(tactic| walk_at "dl") => `(tactic| ((try simp only [gstart, gwipe, List.set_set, List.map_cons, List.map_nil, List.length_cons, List.length_nil, rep_0, rep_s, List.cons_append, List.nil_append, List.set_cons_zero, List.set_cons_succ, Nat.reduceAdd, Nat.reduceSub, Nat.zero_add, Nat.add_zero]); (try simp only [↓dv0, ↓dv1, ↓dv2, ↓dv3, ↓dv4, ↓dv5, ↓dv6, ↓dv7, ↓dv8, ↓dv9, ↓dv10, ↓dv11, ↓dv12, ↓dv13, ↓dv14, ↓dv15, ↓dv16, ↓dv17, ↓dv18, ↓dv19, ↓dv20, ↓dv21, ↓dv22, ↓dv23, ↓dv24, ↓dv25, ↓dv26, ↓dv27, ↓dv28, ↓dv29, ↓dv30, ↓dv31, ↓dv32, ↓dv33, ↓dv34, ↓dv35, ↓dv36, ↓dv37, ↓dv38, ↓dv39, ↓nm0, ↓nm1, ↓nm2, ↓nm3, ↓nm4, ↓nm5, ↓nm6, ↓nm7, ↓nm8, ↓nm9, ↓nm10, ↓nm11, ↓nm12, ↓nm13, ↓nm14, ↓nm15, ↓nm16, ↓nm17, ↓nm18, ↓nm19, ↓nm20, ↓nm21, ↓nm22, ↓nm23, ↓nm24, ↓nm25, ↓nm26, ↓nm27, ↓nm28, ↓nm29, ↓nm30, ↓nm31, ↓nm32, ↓nm33, ↓nm34, ↓nm35, ↓nm36, ↓nm37, ↓nm38, ↓nm39, ↓sPar_n, ↓sPar3_n, ↓sAug_n, ↓reduceIte, List.set_set, ↓sNext_e, ↓sSeq_e, ↓sBrk_e, ↓sCnt_e, ↓sDrop_e, ↓sRet_e, ↓sRetN_e, ↓sIf_e, ↓sAsg_e, ↓sRaise_e, ↓nmG_e, ↓tupG_e, ↓gsNil_e, ↓gsCons_e, ↓subG_e, ↓dC_e, ↓dOp_e, ↓dUn_e, ↓dChain_e, ↓bOf_e, ↓bAnd_e, ↓bOr_e, ↓bNot_e, ↓bYes_e, ↓dAnd_e, ↓dOr_e, ↓dNot_e, ↓dIf_e, ↓lNil_e, ↓lCons_e, ↓dLst_e, ↓dDic0_e, ↓dDic1_e, ↓dLenSetG_e, dIsB_b, dIsNB_b, dSD_e, ↓dLstO_e, ↓dTup_e, ↓dCB_e, ↓dCall_e, ↓dCallK_e, ↓oNone_e, ↓oSome_e, ↓dSl_e, ↓dBM_e, ↓dBM0_e, ↓dFz_e, ↓dFz2_e, ↓d2_e, ↓dLone_e, ↓lStar_e, ↓dCallA_e, ↓dMakeA_e, ↓dMakeV_e, ↓dMethA_e, ↓dCMethA_e, ↓dPropA_e, ↓dFld_e, ↓sFldS_e, ↓dFzI_e, ↓fzID_o, ↓dM1_e, ↓dM0_e, ↓dRev_e, ↓mSplit_s, ↓mUpper_s, ↓exStr, ↓exZ, ↓cStrI_i, ↓cIntS_s, ↓iStrD_e, ↓dEqF_s, ↓dNeF_s, ↓dEqF_i, ↓dNeF_i, ↓dSign_s, ↓sRaiseI_e, ↓dXFld_e, ↓mPop_e, ↓dAddO_l, ↓dAddO_o, ↓dMk0_e, ↓sKeep_e, ↓sTryH_e, ↓dCVal_e, ↓dConI_e, ↓cLen_s, ↓dIx_s, ↓dSlS_s, ↓dAdd_s, ↓cTup_l, ↓pkP_e, ↓pkS_e, ↓lstG_e, ↓asI_i, ↓iSeq_e, ↓iTupD_e, ↓iRg1_e, ↓iRg2_e, ↓iZipD_e, iZrD_e, ↓iEnumD_e, ↓sFor_e, ↓dLc_e, ↓finF_e, ↓finO_e, ↓fzD_l, ↓fzD_i, ↓fzD_o, ↓fzD2_o, ↓dSetO_e, ↓mAppend_e, ↓mClear_e, ↓mReverse_e, List.map_cons, List.map_nil, List.length_cons, List.length_nil, rep_0, rep_s, List.cons_append, List.nil_append, List.getElem?_cons_zero, List.getElem?_cons_succ, List.set_cons_zero, List.set_cons_succ, Nat.reduceAdd, Nat.reduceSub, Nat.zero_add, Nat.add_zero, ↓exSS, ↓exB, ↓exI, ↓ex1, ↓ex2, ↓ex3, ↓exI1, ↓exI2, ↓exT, ↓exC, ↓exAs, ↓dAdd_i, ↓dAddI_i, ↓dSubI_i, ↓dLRg_e, ↓dIsiT_e, ↓dLenSet_e, ↓bChain3_e, ↓dLRg2_e, ↓iRg3_e, ↓dLc2_e, ↓dSlT_t, dAddT_t, ↓dNewK_e, ↓dDis1_e, ↓sDkp_e, ↓dDGet_e, ↓dDGet2_e, ↓dLVals_e, ↓kD_ex_i, ↓dSS_e, ↓dST_e, ↓dSI_e, ↓lsG_e, ↓dMulI_i, ↓dNew_e, ↓sDct_e, ↓dMulO_l, ↓dLRgO_e, ↓dAdd_l, ↓dSub_i, ↓dMul_i, ↓dMul_l, ↓dMod_i, ↓dDiv_i, ↓dPow_i, ↓dLt_i, ↓dLe_i, ↓dGt_i, ↓dGe_i, ↓uNeg_i, ↓cMax2_i, ↓cMin2_i, ↓cAbs_i, ↓cInt_i, ↓cInt_b, ↓cLen_l, ↓cLen_q, ↓cLen_t, ↓cList_l, ↓cList_q, ↓cList_t, ↓cListO_l, ↓cListO_t, ↓dIx_l, ↓dIx_q, ↓dIx_t, ↓dIx_o', ↓exS, ↓exL, at_1, at_2, at_3, at_4, ix30, ix31, ix32, ↓dSlL_l, ↓dSlL_q, ↓asQ_l, ↓asL_l, at_0, ↓isi_non_int, ↓isi_non_bool, ↓isi_non_str, ↓isi_non_list, ↓isi_non_tuple, ↓isi_non_dict, ↓isi_bl_int, ↓isi_bl_bool, ↓isi_bl_str, ↓isi_bl_list, ↓isi_bl_tuple, ↓isi_bl_dict, ↓isi_int_int, ↓isi_int_bool, ↓isi_int_str, ↓isi_int_list, ↓isi_int_tuple, ↓isi_int_dict, ↓isi_str_int, ↓isi_str_bool, ↓isi_str_str, ↓isi_str_list, ↓isi_str_tuple, ↓isi_str_dict, ↓isi_lst_int, ↓isi_lst_bool, ↓isi_lst_str, ↓isi_lst_list, ↓isi_lst_tuple, ↓isi_lst_dict, ↓isi_sq_int, ↓isi_sq_bool, ↓isi_sq_str, ↓isi_sq_list, ↓isi_sq_tuple, ↓isi_sq_dict, ↓isi_tup_int, ↓isi_tup_bool, ↓isi_tup_str, ↓isi_tup_list, ↓isi_tup_tuple, ↓isi_tup_dict, ↓isi_dic_int, ↓isi_dic_bool, ↓isi_dic_str, ↓isi_dic_list, ↓isi_dic_tuple, ↓isi_dic_dict, if_true, if_false, Bool.not_true, Bool.not_false, true_and, and_true, reduceCtorEq, Bool.true_eq_false, Bool.false_eq_true, ite_true, ite_false, ↓exAny, ↓isLst_l, Int.toNat_natCast, Int.reduceToNat, dVar_e, sPar_e, sPar3_e, sAug_e])))
local macro_rules | `(tactic| walk_at "dls") => `(tactic| ((try simp only [gstart, gwipe, List.set_set, List.map_cons, List.map_nil, List.length_cons, List.length_nil, rep_0, rep_s, List.cons_append, List.nil_append, List.set_cons_zero, List.set_cons_succ, Nat.reduceAdd, Nat.reduceSub, Nat.zero_add, Nat.add_zero]); (try simp only [*, ↓dv0, ↓dv1, ↓dv2, ↓dv3, ↓dv4, ↓dv5, ↓dv6, ↓dv7, ↓dv8, ↓dv9, ↓dv10, ↓dv11, ↓dv12, ↓dv13, ↓dv14, ↓dv15, ↓dv16, ↓dv17, ↓dv18, ↓dv19, ↓dv20, ↓dv21, ↓dv22, ↓dv23, ↓dv24, ↓dv25, ↓dv26, ↓dv27, ↓dv28, ↓dv29, ↓dv30, ↓dv31, ↓dv32, ↓dv33, ↓dv34, ↓dv35, ↓dv36, ↓dv37, ↓dv38, ↓dv39, ↓nm0, ↓nm1, ↓nm2, ↓nm3, ↓nm4, ↓nm5, ↓nm6, ↓nm7, ↓nm8, ↓nm9, ↓nm10, ↓nm11, ↓nm12, ↓nm13, ↓nm14, ↓nm15, ↓nm16, ↓nm17, ↓nm18, ↓nm19, ↓nm20, ↓nm21, ↓nm22, ↓nm23, ↓nm24, ↓nm25, ↓nm26, ↓nm27, ↓nm28, ↓nm29, ↓nm30, ↓nm31, ↓nm32, ↓nm33, ↓nm34, ↓nm35, ↓nm36, ↓nm37, ↓nm38, ↓nm39, ↓sPar_n, ↓sPar3_n, ↓sAug_n, ↓reduceIte, List.set_set, ↓sNext_e, ↓sSeq_e, ↓sBrk_e, ↓sCnt_e, ↓sDrop_e, ↓sRet_e, ↓sRetN_e, ↓sIf_e, ↓sAsg_e, ↓sRaise_e, ↓nmG_e, ↓tupG_e, ↓gsNil_e, ↓gsCons_e, ↓subG_e, ↓dC_e, ↓dOp_e, ↓dUn_e, ↓dChain_e, ↓bOf_e, ↓bAnd_e, ↓bOr_e, ↓bNot_e, ↓bYes_e, ↓dAnd_e, ↓dOr_e, ↓dNot_e, ↓dIf_e, ↓lNil_e, ↓lCons_e, ↓dLst_e, ↓dDic0_e, ↓dDic1_e, ↓dLenSetG_e, dIsB_b, dIsNB_b, dSD_e, ↓dLstO_e, ↓dTup_e, ↓dCB_e, ↓dCall_e, ↓dCallK_e, ↓oNone_e, ↓oSome_e, ↓dSl_e, ↓dBM_e, ↓dBM0_e, ↓dFz_e, ↓dFz2_e, ↓d2_e, ↓dLone_e, ↓lStar_e, ↓dCallA_e, ↓dMakeA_e, ↓dMakeV_e, ↓dMethA_e, ↓dCMethA_e, ↓dPropA_e, ↓dFld_e, ↓sFldS_e, ↓dFzI_e, ↓fzID_o, ↓dM1_e, ↓dM0_e, ↓dRev_e, ↓mSplit_s, ↓mUpper_s, ↓exStr, ↓exZ, ↓cStrI_i, ↓cIntS_s, ↓iStrD_e, ↓dEqF_s, ↓dNeF_s, ↓dEqF_i, ↓dNeF_i, ↓dSign_s, ↓sRaiseI_e, ↓dXFld_e, ↓mPop_e, ↓dAddO_l, ↓dAddO_o, ↓dMk0_e, ↓sKeep_e, ↓sTryH_e, ↓dCVal_e, ↓dConI_e, ↓cLen_s, ↓dIx_s, ↓dSlS_s, ↓dAdd_s, ↓cTup_l, ↓pkP_e, ↓pkS_e, ↓lstG_e, ↓asI_i, ↓iSeq_e, ↓iTupD_e, ↓iRg1_e, ↓iRg2_e, ↓iZipD_e, iZrD_e, ↓iEnumD_e, ↓sFor_e, ↓dLc_e, ↓finF_e, ↓finO_e, ↓fzD_l, ↓fzD_i, ↓fzD_o, ↓fzD2_o, ↓dSetO_e, ↓mAppend_e, ↓mClear_e, ↓mReverse_e, List.map_cons, List.map_nil, List.length_cons, List.length_nil, rep_0, rep_s, List.cons_append, List.nil_append, List.getElem?_cons_zero, List.getElem?_cons_succ, List.set_cons_zero, List.set_cons_succ, Nat.reduceAdd, Nat.reduceSub, Nat.zero_add, Nat.add_zero, ↓exSS, ↓exB, ↓exI, ↓ex1, ↓ex2, ↓ex3, ↓exI1, ↓exI2, ↓exT, ↓exC, ↓exAs, ↓dAdd_i, ↓dAddI_i, ↓dSubI_i, ↓dLRg_e, ↓dIsiT_e, ↓dLenSet_e, ↓bChain3_e, ↓dLRg2_e, ↓iRg3_e, ↓dLc2_e, ↓dSlT_t, dAddT_t, ↓dNewK_e, ↓dDis1_e, ↓sDkp_e, ↓dDGet_e, ↓dDGet2_e, ↓dLVals_e, ↓kD_ex_i, ↓dSS_e, ↓dST_e, ↓dSI_e, ↓lsG_e, ↓dMulI_i, ↓dNew_e, ↓sDct_e, ↓dMulO_l, ↓dLRgO_e, ↓dAdd_l, ↓dSub_i, ↓dMul_i, ↓dMul_l, ↓dMod_i, ↓dDiv_i, ↓dPow_i, ↓dLt_i, ↓dLe_i, ↓dGt_i, ↓dGe_i, ↓uNeg_i, ↓cMax2_i, ↓cMin2_i, ↓cAbs_i, ↓cInt_i, ↓cInt_b, ↓cLen_l, ↓cLen_q, ↓cLen_t, ↓cList_l, ↓cList_q, ↓cList_t, ↓cListO_l, ↓cListO_t, ↓dIx_l, ↓dIx_q, ↓dIx_t, ↓dIx_o', ↓exS, ↓exL, at_1, at_2, at_3, at_4, ix30, ix31, ix32, ↓dSlL_l, ↓dSlL_q, ↓asQ_l, ↓asL_l, at_0, ↓isi_non_int, ↓isi_non_bool, ↓isi_non_str, ↓isi_non_list, ↓isi_non_tuple, ↓isi_non_dict, ↓isi_bl_int, ↓isi_bl_bool, ↓isi_bl_str, ↓isi_bl_list, ↓isi_bl_tuple, ↓isi_bl_dict, ↓isi_int_int, ↓isi_int_bool, ↓isi_int_str, ↓isi_int_list, ↓isi_int_tuple, ↓isi_int_dict, ↓isi_str_int, ↓isi_str_bool, ↓isi_str_str, ↓isi_str_list, ↓isi_str_tuple, ↓isi_str_dict, ↓isi_lst_int, ↓isi_lst_bool, ↓isi_lst_str, ↓isi_lst_list, ↓isi_lst_tuple, ↓isi_lst_dict, ↓isi_sq_int, ↓isi_sq_bool, ↓isi_sq_str, ↓isi_sq_list, ↓isi_sq_tuple, ↓isi_sq_dict, ↓isi_tup_int, ↓isi_tup_bool, ↓isi_tup_str, ↓isi_tup_list, ↓isi_tup_tuple, ↓isi_tup_dict, ↓isi_dic_int, ↓isi_dic_bool, ↓isi_dic_str, ↓isi_dic_list, ↓isi_dic_tuple, ↓isi_dic_dict, if_true, if_false, Bool.not_true, Bool.not_false, true_and, and_true, reduceCtorEq, Bool.true_eq_false, Bool.false_eq_true, ite_true, ite_false, ↓exAny, ↓isLst_l, Int.toNat_natCast, Int.reduceToNat, dVar_e, sPar_e, sPar3_e, sAug_e])))
--MK
theorem cut_mem {α : Type} {xs : List α} {a b : Option Int} {x : α} (h : x ∈ cutD xs a b) : x ∈ xs := List.mem_of_mem_drop (List.mem_of_mem_take h)
theorem cut_le {α : Type} (xs : List α) (a b : Option Int) : (cutD xs a b).length ≤ xs.length := by
  unfold cutD
  rw [List.length_take, List.length_drop]
  omega
theorem zipD_map {α β : Type} (f : α → D) (g : β → D) : ∀ (xs : List α) (ys : List β), zipD (xs.map f) (ys.map g) = (xs.zip ys).map fun p => D.tup [f p.1, g p.2]
  | [], _ => by cases ‹List β› <;> rfl
  | _ :: _, [] => rfl
  | x :: xs, y :: ys => by
    have := zipD_map f g xs ys
    show D.tup [f x, g y] :: zipD (xs.map f) (ys.map g) = _
    rw [this]
    rfl
theorem ints_same {xs : List Int} : (SeqAt.shaped (.list (xs.map PyData.int)) = true) ∧ PyData.eqv (.list (xs.map PyData.int)) (.list (xs.map PyData.int)) = true := by
  have h1 : ∀ xs : List Int, PyData.canLayAll0 (xs.map PyData.int) = true := fun xs => by
    induction xs with
    | nil => rw [List.map_nil, PyData.canLayAll0]
    | cons x xs ih => rw [List.map_cons, PyData.canLayAll0, PyData.canLay0, ih]; rfl
  exact ⟨shaped_ints xs, SeqAt.eqv_refl _ (by rw [PyData.canLay0, h1])⟩
theorem ne_ints_same {S : Sto} {Φ : KD} {x y : D} {xs : List Int} (e1 : asL S x = some (xs.map D.int)) (e2 : asL S y = some (xs.map D.int)) (h : Φ S (.bl false)) : dNe x y S Φ := by
  have pr : ∀ x : D, asL S x = some (xs.map D.int) → PyR S x (.list (xs.map PyData.int)) := fun x e => by
    rcases asL_cases e with rfl | ⟨n, rfl, e'⟩
    · exact .lst (pyra_map PyR.int xs)
    · exact .own e' (pyra_map PyR.int xs)
  exact ⟨_, _, pr x e1, pr y e2, ints_same.1, ints_same.1, by rw [ints_same.2]; exact h⟩
theorem eq_ints_same {S : Sto} {Φ : KD} {x y : D} {xs : List Int} (e1 : asL S x = some (xs.map D.int)) (e2 : asL S y = some (xs.map D.int)) (h : Φ S (.bl true)) : dEq x y S Φ := by
  have pr : ∀ x : D, asL S x = some (xs.map D.int) → PyR S x (.list (xs.map PyData.int)) := fun x e => by
    rcases asL_cases e with rfl | ⟨n, rfl, e'⟩
    · exact .lst (pyra_map PyR.int xs)
    · exact .own e' (pyra_map PyR.int xs)
  exact ⟨_, _, pr x e1, pr y e2, ints_same.1, ints_same.1, by rw [ints_same.2]; exact h⟩
/-- what the law needs of a curve -/
structure CvIn (cu : Curve) : Prop where
  st : StOk cu.2
  few : cu.2.length ≤ 720
  sl : ∀ p ∈ cu.2, p.2 ≤ 60 ^ 13
  tt : tot cu.2 ≤ 12 * GREAT
  t0 : 0 ≤ cu.1
  t1 : cu.1 ≤ 23 * GREAT
theorem page_in {t : List (List Int)} {g l : Int} (ok : TabOk t) (g0 : 0 ≤ g) (g1 : g ≤ GREAT) (l0 : 0 ≤ l) (l1 : l ≤ GREAT) : CvIn (pageC g l t) := by
  have h : CvOk (60 ^ 13) (((12 : Nat) : Int) * GREAT) (pageC g l t) := curve_ok l0 ok.cells ok.hi 12 0 0 _ (by have := ok.lo; omega)
  have ht : (pageC g l t).1 ∈ endsF g l t := by
    rw [page_top ok]
    exact maxOf_mem (fun e => by have h0 := ends_len g l t; rw [e] at h0; have h0 : 0 = t.length := h0; have := ok.lo; omega)
  obtain ⟨j, hj, e⟩ := List.mem_map.mp ht
  have hj : j < t.length := List.mem_range.mp hj
  have := rowEnd_in g0 g1 l0 l1 ok.cells (j := j) (ok.row _ (List.mem_of_getElem? (tab_get hj))).hi
  exact ⟨h.st, page_len ok g l, h.sl, h.tt, by omega, by omega⟩
section
variable {cu : Curve} (k : CvIn cu)
include k
theorem CvIn.bot : -12 * GREAT ≤ bottomF cu := by
  have := k.tt
  have := k.t0
  show -12 * GREAT ≤ cu.1 - tot cu.2
  show -12 * 1000000000000000000000000000000 ≤ _
  have h : tot cu.2 ≤ 12 * 1000000000000000000000000000000 := k.tt
  omega
theorem CvIn.piece (p : Int × Int × Int) (hp : p ∈ piecesF cu) : (p.2.2.natAbs < 2 ^ 200 ∧ p.1.natAbs < 2 ^ 200 ∧ p.2.1.natAbs < 2 ^ 200) ∧ (bottomF cu ≤ p.1 ∧ p.2.1 ≤ cu.1 ∧ p.1 < p.2.1) ∧ 1 ≤ p.2.2 ∧ p.2.2 ≤ 60 ^ 13 := by
  obtain ⟨a, b, c, x, hx, e⟩ := pieces_in k.st p hp
  have s1 := k.st.slope x hx
  have s2 := k.sl x hx
  have b0 : -12 * 1000000000000000000000000000000 ≤ bottomF cu := k.bot
  have t1 : cu.1 ≤ 23 * 1000000000000000000000000000000 := k.t1
  have z1 : (60 : Int) ^ 13 < 2 ^ 100 := by decide
  have z2 : (2 : Nat) ^ 200 = 1606938044258990275541962092341162602522202993782792835301376 := by decide
  rw [z2]
  exact ⟨⟨by omega, by omega, by omega⟩, ⟨a, c, b⟩, by omega, by omega⟩
theorem CvIn.len : (piecesF cu).length ≤ 720 := by unfold piecesF; rw [List.length_reverse, pieces_len]; exact k.few
theorem CvIn.price (w : Int) : 0 ≤ sumP (piecesF cu) w ∧ sumP (piecesF cu) w < 2 ^ 250 := by
  rw [sumP_pieces]
  refine ⟨price_nn cu.2 cu.1 w k.st.slope, ?_⟩
  have h1 := price_le (B := 60 ^ 13) cu.2 cu.1 w fun p hp => ⟨k.st.slope p hp, k.sl p hp, k.st.many p hp⟩
  have h2 : (60 : Int) ^ 13 * tot cu.2 ≤ 60 ^ 13 * (12 * GREAT) := Int.mul_le_mul_of_nonneg_left k.tt (by decide)
  have h3 : (60 : Int) ^ 13 * (12 * GREAT) < 2 ^ 250 := by decide
  omega
theorem CvIn.sum {S : Sto} {Φ : KD} {Ψ : KX} {w : Int} (hw : w.natAbs < 2 ^ 200) (h : Φ S (.int (sumP (piecesF cu) w))) : sp__law_sum [.lst ((piecesF cu).map pieceD), .int w] S Φ Ψ :=
  ⟨piecesF cu, w, rfl, by have := k.len; omega, fun p hp => (k.piece p hp).1, Nat.lt_of_lt_of_le hw (Nat.pow_le_pow_right (by decide) (by decide)), h⟩
theorem CvIn.mid {w : Int} (h1 : bottomF cu - 1 ≤ w) (h2 : w ≤ cu.1) : w.natAbs < 2 ^ 200 := by
  have b0 : -12 * 1000000000000000000000000000000 ≤ bottomF cu := k.bot
  have t1 : cu.1 ≤ 23 * 1000000000000000000000000000000 := k.t1
  have z2 : (2 : Nat) ^ 200 = 1606938044258990275541962092341162602522202993782792835301376 := by decide
  rw [z2]
  omega
end
end DL
namespace DL
open PySem PySem.Spec PyProof.Rows L2
local macro_rules | `(tactic| walk_at "dl") => `(tactic| ((try simp only [gstart, gwipe, List.set_set, List.map_cons, List.map_nil, List.length_cons, List.length_nil, rep_0, rep_s, List.cons_append, List.nil_append, List.set_cons_zero, List.set_cons_succ, Nat.reduceAdd, Nat.reduceSub, Nat.zero_add, Nat.add_zero]); (try simp only [↓dv0, ↓dv1, ↓dv2, ↓dv3, ↓dv4, ↓dv5, ↓dv6, ↓dv7, ↓dv8, ↓dv9, ↓dv10, ↓dv11, ↓dv12, ↓dv13, ↓dv14, ↓dv15, ↓dv16, ↓dv17, ↓dv18, ↓dv19, ↓dv20, ↓dv21, ↓dv22, ↓dv23, ↓dv24, ↓dv25, ↓dv26, ↓dv27, ↓dv28, ↓dv29, ↓dv30, ↓dv31, ↓dv32, ↓dv33, ↓dv34, ↓dv35, ↓dv36, ↓dv37, ↓dv38, ↓dv39, ↓nm0, ↓nm1, ↓nm2, ↓nm3, ↓nm4, ↓nm5, ↓nm6, ↓nm7, ↓nm8, ↓nm9, ↓nm10, ↓nm11, ↓nm12, ↓nm13, ↓nm14, ↓nm15, ↓nm16, ↓nm17, ↓nm18, ↓nm19, ↓nm20, ↓nm21, ↓nm22, ↓nm23, ↓nm24, ↓nm25, ↓nm26, ↓nm27, ↓nm28, ↓nm29, ↓nm30, ↓nm31, ↓nm32, ↓nm33, ↓nm34, ↓nm35, ↓nm36, ↓nm37, ↓nm38, ↓nm39, ↓sPar_n, ↓sPar3_n, ↓sAug_n, ↓reduceIte, List.set_set, ↓sNext_e, ↓sSeq_e, ↓sBrk_e, ↓sCnt_e, ↓sDrop_e, ↓sRet_e, ↓sRetN_e, ↓sIf_e, ↓sAsg_e, ↓sRaise_e, ↓nmG_e, ↓tupG_e, ↓gsNil_e, ↓gsCons_e, ↓subG_e, ↓dC_e, ↓dOp_e, ↓dUn_e, ↓dChain_e, ↓bOf_e, ↓bAnd_e, ↓bOr_e, ↓bNot_e, ↓bYes_e, ↓dAnd_e, ↓dOr_e, ↓dNot_e, ↓dIf_e, ↓lNil_e, ↓lCons_e, ↓dLst_e, ↓dDic0_e, ↓dDic1_e, ↓dLenSetG_e, dIsB_b, dIsNB_b, dSD_e, ↓dLstO_e, ↓dTup_e, ↓dCB_e, ↓dCall_e, ↓dCallK_e, ↓oNone_e, ↓oSome_e, ↓dSl_e, ↓dBM_e, ↓dBM0_e, ↓dFz_e, ↓dFz2_e, ↓d2_e, ↓dLone_e, ↓lStar_e, ↓dCallA_e, ↓dMakeA_e, ↓dMakeV_e, ↓dMethA_e, ↓dCMethA_e, ↓dPropA_e, ↓dFld_e, ↓sFldS_e, ↓dFzI_e, ↓fzID_o, ↓dM1_e, ↓dM0_e, ↓dRev_e, ↓mSplit_s, ↓mUpper_s, ↓exStr, ↓exZ, ↓cStrI_i, ↓cIntS_s, ↓iStrD_e, ↓dEqF_s, ↓dNeF_s, ↓dEqF_i, ↓dNeF_i, ↓dSign_s, ↓sRaiseI_e, ↓dXFld_e, ↓mPop_e, ↓dAddO_l, ↓dAddO_o, ↓dMk0_e, ↓sKeep_e, ↓sTryH_e, ↓dCVal_e, ↓dConI_e, ↓cLen_s, ↓dIx_s, ↓dSlS_s, ↓dAdd_s, ↓cTup_l, ↓pkP_e, ↓pkS_e, ↓lstG_e, ↓asI_i, ↓iSeq_e, ↓iTupD_e, ↓iRg1_e, ↓iRg2_e, ↓iZipD_e, iZrD_e, ↓iEnumD_e, ↓sFor_e, ↓dLc_e, ↓finF_e, ↓finO_e, ↓fzD_l, ↓fzD_i, ↓fzD_o, ↓fzD2_o, ↓dSetO_e, ↓mAppend_e, ↓mClear_e, ↓mReverse_e, List.map_cons, List.map_nil, List.length_cons, List.length_nil, rep_0, rep_s, List.cons_append, List.nil_append, List.getElem?_cons_zero, List.getElem?_cons_succ, List.set_cons_zero, List.set_cons_succ, Nat.reduceAdd, Nat.reduceSub, Nat.zero_add, Nat.add_zero, ↓exSS, ↓exB, ↓exI, ↓ex1, ↓ex2, ↓ex3, ↓exI1, ↓exI2, ↓exT, ↓exC, ↓exAs, ↓dAdd_i, ↓dAddI_i, ↓dSubI_i, ↓dLRg_e, ↓dIsiT_e, ↓dLenSet_e, ↓bChain3_e, ↓dLRg2_e, ↓iRg3_e, ↓dLc2_e, ↓dSlT_t, dAddT_t, ↓dNewK_e, ↓dDis1_e, ↓sDkp_e, ↓dDGet_e, ↓dDGet2_e, ↓dLVals_e, ↓kD_ex_i, ↓dSS_e, ↓dST_e, ↓dSI_e, ↓lsG_e, ↓dMulI_i, ↓dNew_e, ↓sDct_e, ↓dMulO_l, ↓dLRgO_e, ↓dAdd_l, ↓dSub_i, ↓dMul_i, ↓dMul_l, ↓dMod_i, ↓dDiv_i, ↓dPow_i, ↓dLt_i, ↓dLe_i, ↓dGt_i, ↓dGe_i, ↓uNeg_i, ↓cMax2_i, ↓cMin2_i, ↓cAbs_i, ↓cInt_i, ↓cInt_b, ↓cLen_l, ↓cLen_q, ↓cLen_t, ↓cList_l, ↓cList_q, ↓cList_t, ↓cListO_l, ↓cListO_t, ↓dIx_l, ↓dIx_q, ↓dIx_t, ↓dIx_o', ↓exS, ↓exL, at_1, at_2, at_3, at_4, ix30, ix31, ix32, ↓dSlL_l, ↓dSlL_q, ↓asQ_l, ↓asL_l, at_0, ↓isi_non_int, ↓isi_non_bool, ↓isi_non_str, ↓isi_non_list, ↓isi_non_tuple, ↓isi_non_dict, ↓isi_bl_int, ↓isi_bl_bool, ↓isi_bl_str, ↓isi_bl_list, ↓isi_bl_tuple, ↓isi_bl_dict, ↓isi_int_int, ↓isi_int_bool, ↓isi_int_str, ↓isi_int_list, ↓isi_int_tuple, ↓isi_int_dict, ↓isi_str_int, ↓isi_str_bool, ↓isi_str_str, ↓isi_str_list, ↓isi_str_tuple, ↓isi_str_dict, ↓isi_lst_int, ↓isi_lst_bool, ↓isi_lst_str, ↓isi_lst_list, ↓isi_lst_tuple, ↓isi_lst_dict, ↓isi_sq_int, ↓isi_sq_bool, ↓isi_sq_str, ↓isi_sq_list, ↓isi_sq_tuple, ↓isi_sq_dict, ↓isi_tup_int, ↓isi_tup_bool, ↓isi_tup_str, ↓isi_tup_list, ↓isi_tup_tuple, ↓isi_tup_dict, ↓isi_dic_int, ↓isi_dic_bool, ↓isi_dic_str, ↓isi_dic_list, ↓isi_dic_tuple, ↓isi_dic_dict, if_true, if_false, Bool.not_true, Bool.not_false, true_and, and_true, reduceCtorEq, Bool.true_eq_false, Bool.false_eq_true, ite_true, ite_false, ↓exAny, ↓isLst_l, Int.toNat_natCast, Int.reduceToNat, dVar_e, sPar_e, sPar3_e, sAug_e])))
local macro_rules | `(tactic| walk_at "dls") => `(tactic| ((try simp only [gstart, gwipe, List.set_set, List.map_cons, List.map_nil, List.length_cons, List.length_nil, rep_0, rep_s, List.cons_append, List.nil_append, List.set_cons_zero, List.set_cons_succ, Nat.reduceAdd, Nat.reduceSub, Nat.zero_add, Nat.add_zero]); (try simp only [*, ↓dv0, ↓dv1, ↓dv2, ↓dv3, ↓dv4, ↓dv5, ↓dv6, ↓dv7, ↓dv8, ↓dv9, ↓dv10, ↓dv11, ↓dv12, ↓dv13, ↓dv14, ↓dv15, ↓dv16, ↓dv17, ↓dv18, ↓dv19, ↓dv20, ↓dv21, ↓dv22, ↓dv23, ↓dv24, ↓dv25, ↓dv26, ↓dv27, ↓dv28, ↓dv29, ↓dv30, ↓dv31, ↓dv32, ↓dv33, ↓dv34, ↓dv35, ↓dv36, ↓dv37, ↓dv38, ↓dv39, ↓nm0, ↓nm1, ↓nm2, ↓nm3, ↓nm4, ↓nm5, ↓nm6, ↓nm7, ↓nm8, ↓nm9, ↓nm10, ↓nm11, ↓nm12, ↓nm13, ↓nm14, ↓nm15, ↓nm16, ↓nm17, ↓nm18, ↓nm19, ↓nm20, ↓nm21, ↓nm22, ↓nm23, ↓nm24, ↓nm25, ↓nm26, ↓nm27, ↓nm28, ↓nm29, ↓nm30, ↓nm31, ↓nm32, ↓nm33, ↓nm34, ↓nm35, ↓nm36, ↓nm37, ↓nm38, ↓nm39, ↓sPar_n, ↓sPar3_n, ↓sAug_n, ↓reduceIte, List.set_set, ↓sNext_e, ↓sSeq_e, ↓sBrk_e, ↓sCnt_e, ↓sDrop_e, ↓sRet_e, ↓sRetN_e, ↓sIf_e, ↓sAsg_e, ↓sRaise_e, ↓nmG_e, ↓tupG_e, ↓gsNil_e, ↓gsCons_e, ↓subG_e, ↓dC_e, ↓dOp_e, ↓dUn_e, ↓dChain_e, ↓bOf_e, ↓bAnd_e, ↓bOr_e, ↓bNot_e, ↓bYes_e, ↓dAnd_e, ↓dOr_e, ↓dNot_e, ↓dIf_e, ↓lNil_e, ↓lCons_e, ↓dLst_e, ↓dDic0_e, ↓dDic1_e, ↓dLenSetG_e, dIsB_b, dIsNB_b, dSD_e, ↓dLstO_e, ↓dTup_e, ↓dCB_e, ↓dCall_e, ↓dCallK_e, ↓oNone_e, ↓oSome_e, ↓dSl_e, ↓dBM_e, ↓dBM0_e, ↓dFz_e, ↓dFz2_e, ↓d2_e, ↓dLone_e, ↓lStar_e, ↓dCallA_e, ↓dMakeA_e, ↓dMakeV_e, ↓dMethA_e, ↓dCMethA_e, ↓dPropA_e, ↓dFld_e, ↓sFldS_e, ↓dFzI_e, ↓fzID_o, ↓dM1_e, ↓dM0_e, ↓dRev_e, ↓mSplit_s, ↓mUpper_s, ↓exStr, ↓exZ, ↓cStrI_i, ↓cIntS_s, ↓iStrD_e, ↓dEqF_s, ↓dNeF_s, ↓dEqF_i, ↓dNeF_i, ↓dSign_s, ↓sRaiseI_e, ↓dXFld_e, ↓mPop_e, ↓dAddO_l, ↓dAddO_o, ↓dMk0_e, ↓sKeep_e, ↓sTryH_e, ↓dCVal_e, ↓dConI_e, ↓cLen_s, ↓dIx_s, ↓dSlS_s, ↓dAdd_s, ↓cTup_l, ↓pkP_e, ↓pkS_e, ↓lstG_e, ↓asI_i, ↓iSeq_e, ↓iTupD_e, ↓iRg1_e, ↓iRg2_e, ↓iZipD_e, iZrD_e, ↓iEnumD_e, ↓sFor_e, ↓dLc_e, ↓finF_e, ↓finO_e, ↓fzD_l, ↓fzD_i, ↓fzD_o, ↓fzD2_o, ↓dSetO_e, ↓mAppend_e, ↓mClear_e, ↓mReverse_e, List.map_cons, List.map_nil, List.length_cons, List.length_nil, rep_0, rep_s, List.cons_append, List.nil_append, List.getElem?_cons_zero, List.getElem?_cons_succ, List.set_cons_zero, List.set_cons_succ, Nat.reduceAdd, Nat.reduceSub, Nat.zero_add, Nat.add_zero, ↓exSS, ↓exB, ↓exI, ↓ex1, ↓ex2, ↓ex3, ↓exI1, ↓exI2, ↓exT, ↓exC, ↓exAs, ↓dAdd_i, ↓dAddI_i, ↓dSubI_i, ↓dLRg_e, ↓dIsiT_e, ↓dLenSet_e, ↓bChain3_e, ↓dLRg2_e, ↓iRg3_e, ↓dLc2_e, ↓dSlT_t, dAddT_t, ↓dNewK_e, ↓dDis1_e, ↓sDkp_e, ↓dDGet_e, ↓dDGet2_e, ↓dLVals_e, ↓kD_ex_i, ↓dSS_e, ↓dST_e, ↓dSI_e, ↓lsG_e, ↓dMulI_i, ↓dNew_e, ↓sDct_e, ↓dMulO_l, ↓dLRgO_e, ↓dAdd_l, ↓dSub_i, ↓dMul_i, ↓dMul_l, ↓dMod_i, ↓dDiv_i, ↓dPow_i, ↓dLt_i, ↓dLe_i, ↓dGt_i, ↓dGe_i, ↓uNeg_i, ↓cMax2_i, ↓cMin2_i, ↓cAbs_i, ↓cInt_i, ↓cInt_b, ↓cLen_l, ↓cLen_q, ↓cLen_t, ↓cList_l, ↓cList_q, ↓cList_t, ↓cListO_l, ↓cListO_t, ↓dIx_l, ↓dIx_q, ↓dIx_t, ↓dIx_o', ↓exS, ↓exL, at_1, at_2, at_3, at_4, ix30, ix31, ix32, ↓dSlL_l, ↓dSlL_q, ↓asQ_l, ↓asL_l, at_0, ↓isi_non_int, ↓isi_non_bool, ↓isi_non_str, ↓isi_non_list, ↓isi_non_tuple, ↓isi_non_dict, ↓isi_bl_int, ↓isi_bl_bool, ↓isi_bl_str, ↓isi_bl_list, ↓isi_bl_tuple, ↓isi_bl_dict, ↓isi_int_int, ↓isi_int_bool, ↓isi_int_str, ↓isi_int_list, ↓isi_int_tuple, ↓isi_int_dict, ↓isi_str_int, ↓isi_str_bool, ↓isi_str_str, ↓isi_str_list, ↓isi_str_tuple, ↓isi_str_dict, ↓isi_lst_int, ↓isi_lst_bool, ↓isi_lst_str, ↓isi_lst_list, ↓isi_lst_tuple, ↓isi_lst_dict, ↓isi_sq_int, ↓isi_sq_bool, ↓isi_sq_str, ↓isi_sq_list, ↓isi_sq_tuple, ↓isi_sq_dict, ↓isi_tup_int, ↓isi_tup_bool, ↓isi_tup_str, ↓isi_tup_list, ↓isi_tup_tuple, ↓isi_tup_dict, ↓isi_dic_int, ↓isi_dic_bool, ↓isi_dic_str, ↓isi_dic_list, ↓isi_dic_tuple, ↓isi_dic_dict, if_true, if_false, Bool.not_true, Bool.not_false, true_and, and_true, reduceCtorEq, Bool.true_eq_false, Bool.false_eq_true, ite_true, ite_false, ↓exAny, ↓isLst_l, Int.toNat_natCast, Int.reduceToNat, dVar_e, sPar_e, sPar3_e, sAug_e])))
--MK
theorem cutD_map {α β : Type} (f : α → β) (xs : List α) (a b : Option Int) : cutD (xs.map f) a b = (cutD xs a b).map f := by
  unfold cutD
  simp only [List.length_map, List.map_take, List.map_drop]
theorem ixp {p : Int × Int × Int} {i : Int} {S : Sto} {R : KD} {y : D} (e : atI [D.int p.1, .int p.2.1, .int p.2.2] i = some y) (h : R S y) : dIx (pieceD p) (.int i) S R := ixl e h
theorem p__law_right (C I : Addr) : Rets (sp__law_right) (T__law_right C I) N__law_right := by
  rintro _ S Φ Ψ ⟨h, b, n, t, g, l, rfl, nd, hn, ok, g0, g1, l0, l1, q⟩
  unfold T__law_right
  have hst : StOk (pageC g l t).2 := (page_in ok g0 g1 l0 l1).st
  refine (?_ : ∀ (E : EdD) (R : TSd), E.rt = RetOk S Φ → E.er = ErOk S Ψ → (∀ (S1 : Sto) (ks : List Str), Nd S1 h b (n + 1) → LookOk ks g l → R E [some (.own h), some (tabD t), some (lookD g l), some (.ins C (styF ks g l)), some (.lst ((piecesF (pageC g l t)).map pieceD)), some (.int (bottomF (pageC g l t))), some (.int (pageC g l t).1), none, none, none, none, none, none, none, none, none] S1) → (sSeq _ (sSeq _ (sSeq _ (sSeq _ R)))) E _ S) _ _ rfl rfl ?_
  · intro E R hE1 hE2 hR
    obtain ⟨nx, rt, bk, ct, er⟩ := E
    have hE1 : rt = RetOk S Φ := hE1
    have hE2 : er = ErOk S Ψ := hE2
    subst hE1 hE2
    walk_at "dl"
    refine ⟨h, b, n, g, l, rfl, nd, hn, g0, g1, l0, l1, fun S1 ks nd1 lk => ?_⟩
    show fzID _ _ _
    rw [fzID_o]
    refine ⟨C, _, get_at, ?_⟩
    rw [set_at]
    refine ⟨small (Nat.zero_le _), t, .ins C (styF ks g l), ks, g, l, rfl, ok, rfl, lk, fun Z1 => ?_⟩
    refine ⟨t, g, l, rfl, ok, fun Z2 => ⟨endsF g l t, rfl, by rw [ends_len]; exact ok.lo, fun m hm1 hm2 => ?_⟩⟩
    have em : m = (pageC g l t).1 := by rw [page_top ok]; exact maxOf_eq hm1 hm2
    subst em
    refine ⟨t, _, ks, g, l, rfl, ok, rfl, lk, fun Z3 => ?_⟩
    have hR := hR (S1 ++ [.gone] ++ Z1 ++ Z2 ++ Z3) ks ((((nd1.app _).app _).app _).app _) lk
    generalize pageC g l t = cu at *
    refine ⟨small (Nat.zero_le _), ne_pieces ⟨_, rfl, ?_⟩⟩
    by_cases hn : cu.2 = []
    · have hp : piecesF cu = [] := by unfold piecesF; rw [hn]; rfl
      rw [if_neg (by rw [hp]; decide)]
      refine ⟨small (Nat.zero_le _), eq_pieces ⟨_, rfl, ?_⟩⟩
      rw [if_pos (decide_eq_true hp), dNeF_i]
      have hbt : bottomF cu = cu.1 := by show cu.1 - tot cu.2 = cu.1; rw [hn]; show cu.1 - 0 = cu.1; omega
      refine ⟨_, rfl, ?_⟩
      rw [if_neg (by rw [hbt]; simp)]
      exact hR
    · have hp : piecesF cu ≠ [] := fun e => hn (by unfold piecesF at e; have e := List.reverse_eq_nil_iff.mp e; have := pieces_len cu.2 cu.1; rw [e] at this; exact List.eq_nil_of_length_eq_zero this.symm)
      rw [if_pos (by simp [hp])]
      obtain ⟨a, ea, ea2⟩ := pieces_first hst hn
      obtain ⟨z, ez, ez2⟩ := pieces_end hst hn
      have hpl : 1 ≤ ((piecesF cu).map pieceD).length := by rw [List.length_map]; exact List.length_pos_iff.mpr hp
      refine ixl (y := pieceD a) (by rw [show (0 : Int) = ((0 : Nat) : Int) from rfl, at_nat, List.getElem?_map, ea]; rfl) (ixp (y := .int a.1) rfl ?_)
      rw [dNeF_i, ea2]
      refine ⟨_, rfl, ?_⟩
      rw [if_neg (by simp)]
      refine ixl (y := pieceD z) (by rw [at_neg1 hpl, List.length_map, List.getElem?_map, ez]; rfl) (ixp (y := .int z.2.1) rfl ?_)
      rw [dNeF_i, ez2]
      refine ⟨_, rfl, ?_⟩
      rw [if_neg (by simp)]
      refine ⟨small (Nat.zero_le _), eq_pieces ⟨_, rfl, ?_⟩⟩
      rw [if_neg (by simp [hp])]
      exact hR
  · intro S1 ks nd1 lk
    walk_at "dl"
    have k := page_in ok g0 g1 l0 l1
    generalize ecu : pageC g l t = cu at *
    have ec : cutD ((piecesF cu).map pieceD) (some (1 : Int)) none = ((piecesF cu).drop 1).map pieceD := (cut_from (j := 1)).trans (List.map_drop ..).symm
    have src : (fun S' : Sto => (some ((piecesF cu).map pieceD)).bind fun xs => Option.map (fun ys => zipD xs ys) (some (cutD ((piecesF cu).map pieceD) (some 1) none))) = fun _ => some (((piecesF cu).zip ((piecesF cu).drop 1)).map fun p => D.tup [pieceD p.1, pieceD p.2]) := by
      funext S'
      rw [ec]
      show some (zipD _ _) = _
      rw [zipD_map]
    rw [src]
    have hpl := k.len
    refine lc_fm ((piecesF cu).zip ((piecesF cu).drop 1)) (fun p => D.tup [pieceD p.1, pieceD p.2]) (fun p => pieceD p.1) (fun _ => false) (small (by rw [List.length_zip]; omega)) (fun p hp A N hA hN => ?_) ?_
    · obtain ⟨i, hi, e⟩ := List.getElem_of_mem hp
      rw [List.getElem_zip] at e
      obtain ⟨a, c⟩ := p
      injection e with e1 e2
      have hi1 : i < (piecesF cu).length := by rw [List.length_zip] at hi; omega
      have hi2 : i + 1 < (piecesF cu).length := by rw [List.length_zip, List.length_drop] at hi; omega
      have f1 : (piecesF cu)[i]? = some a := by rw [List.getElem?_eq_getElem hi1, e1]
      have f2 : (piecesF cu)[i + 1]? = some c := by rw [List.getElem?_eq_getElem hi2, ← e2, List.getElem_drop]; congr 2; omega
      obtain ⟨c1, c2⟩ := pieces_chain k.st i a c f1 f2
      obtain ⟨a1, a2, a3⟩ := a
      obtain ⟨d1, d2, d3⟩ := c
      have c1 : a2 = d1 := c1
      have c2 : d3 < a3 := c2
      unfold pieceD
      walk_at "dl"
      rw [if_neg (by rw [c1]; simp), if_neg (by rw [decide_eq_true_eq]; omega)]
      exact hN rfl
    · walk_at "dl"
      refine ⟨small (Nat.zero_le _), ?_⟩
      rw [List.filter_eq_nil_iff.mpr (by simp)]
      refine ne_pieces (ps := []) ⟨_, rfl, ?_⟩
      rw [if_neg (by decide)]
      have bt := bottom_le k.st
      obtain ⟨m0, m1⟩ := k.price (bottomF cu)
      have hWF : ∀ (S : Sto) (Φ : KD) (Ψ : KX) (x : Int), 0 ≤ x → x < 2 ^ 300 → (∀ Z, Φ (S ++ Z) (.int (widthForF cu x))) → sp_width_for C I [tabD t, .ins C (styF ks g l), .int x] S Φ Ψ := fun S Φ Ψ x x0 x1 hx => ⟨t, _, ks, g, l, x, rfl, ok, rfl, lk, Int.lt_trans x1 (by decide), fun _ Z => by rw [ecu]; exact hx Z, fun hx => by omega⟩
      refine k.sum (k.mid (by omega) bt) ?_
      generalize hmost : sumP (piecesF cu) (bottomF cu) = most at *
      walk_at "dl"
      refine ⟨cpw (by decide) (by decide) (by decide), h, b, n + 1, most + 1, rfl, nd1, by omega, by omega, Int.lt_trans (show most + 1 < 2 ^ 251 by omega) (by decide), fun S2 v2 nd2 f2 len2 a2 b2 => ?_⟩
      refine ⟨cpw (by decide) (by decide) (by decide), h, b, n + 1 + 1, 10 ^ 30, rfl, nd2, by omega, by decide, by decide, fun S3 v3 nd3 f3 len3 a3 b3 => ?_⟩
      rw [cutD_map, cutD_map, ← List.map_append]
      have hcl : (cutD (piecesF cu) none (some 3) ++ cutD (piecesF cu) (some (-2)) none).length ≤ 1440 := by
        rw [List.length_append]
        have := cut_le (piecesF cu) none (some 3)
        have := cut_le (piecesF cu) (some (-2)) none
        omega
      have hcm : ∀ p ∈ cutD (piecesF cu) none (some 3) ++ cutD (piecesF cu) (some (-2)) none, p ∈ piecesF cu := fun p hp => by
        rcases List.mem_append.mp hp with hp | hp
        · exact cut_mem hp
        · exact cut_mem hp
      refine ⟨small (by decide), small (by rw [List.length_map, List.length_map, ← List.length_append]; omega), ?_⟩
      generalize cutD (piecesF cu) none (some 3) ++ cutD (piecesF cu) (some (-2)) none = L at *
      refine for_l (ds := L.map pieceD) (fun i Γ S' => ∃ asks : List Int, ∃ o9 o10 o11, Γ = [some (.own h), some (tabD t), some (lookD g l), some (.ins C (styF ks g l)), some (.lst ((piecesF cu).map pieceD)), some (.int (bottomF cu)), some (.int cu.1), some (.int most), some (.lst (asks.map D.int)), o9, o10, o11, none, none, none, none] ∧ S' = S3 ∧ asks.length = 7 + 3 * i ∧ ∀ a ∈ asks, 0 ≤ a ∧ a < 2 ^ 260) ⟨[0, 1, most, most + 1, 10 ^ 59, v2, v3], _, _, _, rfl, rfl, rfl, ?_⟩ (fun i Γ' S' hi hp => ?_) fun Γ' S' hp => ?_
      · intro a ha
        have z1 : (10 : Int) ^ 59 < 2 ^ 250 := by decide
        have z2 : (10 : Int) ^ 30 < 2 ^ 250 := by decide
        have z3 : (2 : Int) ^ 250 + 2 < 2 ^ 260 := by decide
        have z4 : (1 : Int) < 2 ^ 250 := by decide
        simp only [List.mem_cons, List.not_mem_nil, or_false] at ha
        generalize (2 : Int) ^ 260 = P at *
        generalize (2 : Int) ^ 250 = Q at *
        have z5 : (0 : Int) ≤ 10 ^ 59 := by decide
        generalize (10 : Int) ^ 59 = Q2 at *
        rcases ha with rfl | rfl | rfl | rfl | rfl | rfl | rfl <;> omega
      · obtain ⟨asks, o9, o10, o11, rfl, rfl, hal, hab⟩ := hp
        rw [List.length_map] at hi
        rw [List.getElem_map]
        have hm := hcm _ (List.getElem_mem hi)
        generalize L[i] = p at *
        obtain ⟨lo, hi2, sl⟩ := p
        obtain ⟨_, ⟨p1, p2, p3⟩, p4, p5⟩ := k.piece _ hm
        have p1 : bottomF cu ≤ lo := p1
        have p2 : hi2 ≤ cu.1 := p2
        have p3 : lo < hi2 := p3
        have p4 : 1 ≤ sl := p4
        have p5 : sl ≤ 60 ^ 13 := p5
        obtain ⟨lo0, lo1⟩ := k.price lo
        obtain ⟨hh0, hh1⟩ := k.price hi2
        unfold pieceD
        walk_at "dl"
        refine k.sum (k.mid (by omega) (by omega)) ?_
        refine k.sum (k.mid (by omega) (by omega)) ?_
        walk_at "dl"
        refine k.sum (k.mid (by omega) (by omega)) ?_
        walk_at "dl"
        have em : (if sumP (piecesF cu) lo - 1 > 0 then sumP (piecesF cu) lo - 1 else 0) = max 0 (sumP (piecesF cu) lo - 1) := by split <;> omega
        rw [em]
        refine ⟨small (by decide), small (by rw [List.length_map]; omega), asks ++ [sumP (piecesF cu) lo, max 0 (sumP (piecesF cu) lo - 1), sumP (piecesF cu) hi2 + sl], _, _, _, by rw [List.map_append]; rfl, by rw [List.length_append, hal]; show 7 + 3 * i + 3 = _; omega, fun a ha => ?_⟩
        rcases List.mem_append.mp ha with ha | ha
        · exact hab a ha
        · have z1 : (60 : Int) ^ 13 < 2 ^ 250 := by decide
          have z3 : (2 : Int) ^ 250 + 2 ^ 250 < 2 ^ 260 := by decide
          simp only [List.mem_cons, List.not_mem_nil, or_false] at ha
          generalize (2 : Int) ^ 260 = P at *
          generalize (2 : Int) ^ 250 = Q at *
          generalize (60 : Int) ^ 13 = Q2 at *
          rcases ha with rfl | rfl | rfl <;> omega
      · obtain ⟨asks, o9, o10, o11, rfl, rfl, hal, hab⟩ := hp
        rw [List.length_map] at hal
        walk_at "dl"
        refine ⟨small (Nat.zero_le _), asks, rfl, fun qs hq1 hq2 => ⟨⟨_, rfl⟩, ?_⟩⟩
        have hqb : ∀ a ∈ qs, 0 ≤ a ∧ a < 2 ^ 260 := fun a ha => hab a (hq1.mem_iff.mp ha)
        have hql : qs.length ≤ 6000 := by rw [hq1.length_eq]; omega
        refine for_l (ds := qs.map D.int) (fun i Γ S2 => ∃ o13, ∃ Z : Sto, Γ = [some (.own h), some (tabD t), some (lookD g l), some (.ins C (styF ks g l)), some (.lst ((piecesF cu).map pieceD)), some (.int (bottomF cu)), some (.int cu.1), some (.int most), some (.lst (asks.map D.int)), o9, o10, o11, some (.own S'.length), o13, none, none] ∧ S2 = S' ++ .lst (((qs.take i).map (widthForF cu)).map D.int) :: Z) ⟨_, [], rfl, rfl⟩ (fun i Γ' S2 hi hp => ?_) fun Γ' S2 hp => ?_
        · obtain ⟨o13, Z, rfl, rfl⟩ := hp
          rw [List.length_map] at hi
          rw [List.getElem_map]
          have qt : qs.take (i + 1) = qs.take i ++ [qs[i]] := by rw [List.take_add_one, List.getElem?_eq_getElem hi]; rfl
          obtain ⟨x0, x1⟩ := hqb _ (List.getElem_mem hi)
          rw [qt]
          have hlt : (qs.take i).length ≤ 6000 := by rw [List.length_take]; omega
          generalize qs[i] = x at *
          generalize qs.take i = done at *
          obtain ⟨⟨w1, w2⟩, w3, w4⟩ := width_is k.st x0
          walk_at "dl"
          refine ⟨isLst_at get_at, hWF _ _ _ x x0 (Int.lt_trans x1 (by decide)) fun Z2 => ⟨_, get_app get_at, under (by rw [List.length_map, List.length_map]; omega), ?_⟩⟩
          have es : (S' ++ Cell.lst (List.map D.int (List.map (widthForF cu) done)) :: Z ++ Z2).set S'.length (.lst (List.map D.int (List.map (widthForF cu) done) ++ [.int (widthForF cu x)])) = S' ++ Cell.lst (List.map D.int (List.map (widthForF cu) (done ++ [x]))) :: (Z ++ Z2) := by
            rw [List.append_assoc, List.cons_append, set_at, List.map_append, List.map_append]
            rfl
          rw [es]
          have ea : atI (List.map D.int (List.map (widthForF cu) (done ++ [x]))) (-1) = some (.int (widthForF cu x)) := by
            rw [at_neg1 (by rw [List.length_map, List.length_map, List.length_append]; show 1 ≤ done.length + 1; omega), List.length_map, List.length_map, List.length_append, List.map_append, List.map_append]
            rw [List.getElem?_append_right (by rw [List.length_map, List.length_map]; show done.length ≤ done.length + 1 - 1; omega), List.length_map, List.length_map]
            rw [show done.length + [x].length - 1 - done.length = 0 by show done.length + 1 - 1 - done.length = 0; omega]
            rfl
          refine ⟨_, get_at, _, ea, k.sum (k.mid (by omega) w2) ?_⟩
          walk_at "dl"
          rw [if_neg (by rw [decide_eq_true_eq]; omega)]
          refine ⟨_, get_at, _, ea, ?_⟩
          walk_at "dl"
          rw [if_pos (decide_eq_true w1), if_neg (by rw [decide_eq_true w2]; decide)]
          refine ⟨_, get_at, _, ea, ?_⟩
          walk_at "dl"
          by_cases hw : bottomF cu < widthForF cu x
          · rw [if_pos (decide_eq_true hw)]
            refine ⟨_, get_at, _, ea, ?_⟩
            walk_at "dl"
            refine k.sum (k.mid (by omega) (by omega)) ?_
            walk_at "dl"
            rw [if_neg (by rw [decide_eq_true_eq]; have := w4 hw; omega)]
            exact ⟨_, _, rfl, rfl⟩
          · rw [if_neg (by rw [decide_eq_true_eq]; exact hw)]
            exact ⟨_, _, rfl, rfl⟩
        · obtain ⟨o13, Z, rfl, rfl⟩ := hp
          rw [List.length_map, List.take_length]
          walk_at "dl"
          refine hWF _ _ _ 0 (Int.le_refl 0) (by decide) fun Z2 => hWF _ _ _ most m0 (Int.lt_trans m1 (by decide)) fun Z3 => ⟨small (by decide), small (by decide), ?_⟩
          have e0 : widthForF cu 0 = cu.1 := width_zero k.st
          have e1 : widthForF cu most = bottomF cu := by rw [← hmost]; exact width_most k.st
          rw [e0, e1]
          refine ne_ints_same (xs := [cu.1, bottomF cu]) rfl rfl ⟨_, rfl, ?_⟩
          rw [if_neg (by decide)]
          have eR : (S' ++ Cell.lst (List.map D.int (List.map (widthForF cu) qs)) :: Z ++ Z2 ++ Z3)[S'.length]? = some (.lst (List.map D.int (List.map (widthForF cu) qs))) := get_app (get_app get_at)
          have ndF : Nd (S' ++ Cell.lst (List.map D.int (List.map (widthForF cu) qs)) :: Z ++ Z2 ++ Z3) h b (n + 10) := (((nd3.app _).app _).app _).more (by omega)
          generalize S' ++ Cell.lst (List.map D.int (List.map (widthForF cu) qs)) :: Z ++ Z2 ++ Z3 = W at eR ndF ⊢
          refine ⟨qs.map (widthForF cu), asL_at' eR, fun rs hr1 hr2 => ⟨_, rfl, ?_⟩⟩
          have hfall : (qs.map (widthForF cu)).Pairwise (· ≥ ·) := by
            refine List.pairwise_map.mpr ?_
            refine List.Pairwise.imp_of_mem ?_ hq2
            intro a c ha hc hac
            exact width_anti k.st (hqb a ha).1 hac
          have ers : rs = (qs.map (widthForF cu)).reverse := List.Perm.eq_of_pairwise (fun a c _ _ h1 h2 => Int.le_antisymm h1 h2) hr2 (List.pairwise_reverse.mpr hfall) (hr1.trans (List.reverse_perm _).symm)
          rw [ers]
          refine eq_ints_same (xs := qs.map (widthForF cu)) (asL_at' eR) (by rw [← List.map_reverse, List.reverse_reverse]; rfl) ⟨_, rfl, ?_⟩
          rw [if_pos rfl]
          refine ⟨t, _, ks, g, l, -1, rfl, ok, rfl, lk, by decide, fun Z4 => ⟨_, rfl, ?_⟩⟩
          rw [if_pos rfl]
          exact ⟨cpw (by decide) (by decide) (by decide), t, _, ks, g, l, 0 - 10 ^ 59, rfl, ok, rfl, lk, by decide, fun Z5 => ret_now (q _ ((ndF.app _).app _))⟩
end DL
namespace DL
open PySem PySem.Spec PyProof.Rows L2
local macro_rules | `(tactic| walk_at "dl") => `(tactic| ((try simp only [gstart, gwipe, List.set_set, List.map_cons, List.map_nil, List.length_cons, List.length_nil, rep_0, rep_s, List.cons_append, List.nil_append, List.set_cons_zero, List.set_cons_succ, Nat.reduceAdd, Nat.reduceSub, Nat.zero_add, Nat.add_zero]); (try simp only [↓dv0, ↓dv1, ↓dv2, ↓dv3, ↓dv4, ↓dv5, ↓dv6, ↓dv7, ↓dv8, ↓dv9, ↓dv10, ↓dv11, ↓dv12, ↓dv13, ↓dv14, ↓dv15, ↓dv16, ↓dv17, ↓dv18, ↓dv19, ↓dv20, ↓dv21, ↓dv22, ↓dv23, ↓dv24, ↓dv25, ↓dv26, ↓dv27, ↓dv28, ↓dv29, ↓dv30, ↓dv31, ↓dv32, ↓dv33, ↓dv34, ↓dv35, ↓dv36, ↓dv37, ↓dv38, ↓dv39, ↓nm0, ↓nm1, ↓nm2, ↓nm3, ↓nm4, ↓nm5, ↓nm6, ↓nm7, ↓nm8, ↓nm9, ↓nm10, ↓nm11, ↓nm12, ↓nm13, ↓nm14, ↓nm15, ↓nm16, ↓nm17, ↓nm18, ↓nm19, ↓nm20, ↓nm21, ↓nm22, ↓nm23, ↓nm24, ↓nm25, ↓nm26, ↓nm27, ↓nm28, ↓nm29, ↓nm30, ↓nm31, ↓nm32, ↓nm33, ↓nm34, ↓nm35, ↓nm36, ↓nm37, ↓nm38, ↓nm39, ↓sPar_n, ↓sPar3_n, ↓sAug_n, ↓reduceIte, List.set_set, ↓sNext_e, ↓sSeq_e, ↓sBrk_e, ↓sCnt_e, ↓sDrop_e, ↓sRet_e, ↓sRetN_e, ↓sIf_e, ↓sAsg_e, ↓sRaise_e, ↓nmG_e, ↓tupG_e, ↓gsNil_e, ↓gsCons_e, ↓subG_e, ↓dC_e, ↓dOp_e, ↓dUn_e, ↓dChain_e, ↓bOf_e, ↓bAnd_e, ↓bOr_e, ↓bNot_e, ↓bYes_e, ↓dAnd_e, ↓dOr_e, ↓dNot_e, ↓dIf_e, ↓lNil_e, ↓lCons_e, ↓dLst_e, ↓dDic0_e, ↓dDic1_e, ↓dLenSetG_e, dIsB_b, dIsNB_b, dSD_e, ↓dLstO_e, ↓dTup_e, ↓dCB_e, ↓dCall_e, ↓dCallK_e, ↓oNone_e, ↓oSome_e, ↓dSl_e, ↓dBM_e, ↓dBM0_e, ↓dFz_e, ↓dFz2_e, ↓d2_e, ↓dLone_e, ↓lStar_e, ↓dCallA_e, ↓dMakeA_e, ↓dMakeV_e, ↓dMethA_e, ↓dCMethA_e, ↓dPropA_e, ↓dFld_e, ↓sFldS_e, ↓dFzI_e, ↓fzID_o, ↓dM1_e, ↓dM0_e, ↓dRev_e, ↓mSplit_s, ↓mUpper_s, ↓exStr, ↓exZ, ↓cStrI_i, ↓cIntS_s, ↓iStrD_e, ↓dEqF_s, ↓dNeF_s, ↓dEqF_i, ↓dNeF_i, ↓dSign_s, ↓sRaiseI_e, ↓dXFld_e, ↓mPop_e, ↓dAddO_l, ↓dAddO_o, ↓dMk0_e, ↓sKeep_e, ↓sTryH_e, ↓dCVal_e, ↓dConI_e, ↓cLen_s, ↓dIx_s, ↓dSlS_s, ↓dAdd_s, ↓cTup_l, ↓pkP_e, ↓pkS_e, ↓lstG_e, ↓asI_i, ↓iSeq_e, ↓iTupD_e, ↓iRg1_e, ↓iRg2_e, ↓iZipD_e, iZrD_e, ↓iEnumD_e, ↓sFor_e, ↓dLc_e, ↓finF_e, ↓finO_e, ↓fzD_l, ↓fzD_i, ↓fzD_o, ↓fzD2_o, ↓dSetO_e, ↓mAppend_e, ↓mClear_e, ↓mReverse_e, List.map_cons, List.map_nil, List.length_cons, List.length_nil, rep_0, rep_s, List.cons_append, List.nil_append, List.getElem?_cons_zero, List.getElem?_cons_succ, List.set_cons_zero, List.set_cons_succ, Nat.reduceAdd, Nat.reduceSub, Nat.zero_add, Nat.add_zero, ↓exSS, ↓exB, ↓exI, ↓ex1, ↓ex2, ↓ex3, ↓exI1, ↓exI2, ↓exT, ↓exC, ↓exAs, ↓dAdd_i, ↓dAddI_i, ↓dSubI_i, ↓dLRg_e, ↓dIsiT_e, ↓dLenSet_e, ↓bChain3_e, ↓dLRg2_e, ↓iRg3_e, ↓dLc2_e, ↓dSlT_t, dAddT_t, ↓dNewK_e, ↓dDis1_e, ↓sDkp_e, ↓dDGet_e, ↓dDGet2_e, ↓dLVals_e, ↓kD_ex_i, ↓dSS_e, ↓dST_e, ↓dSI_e, ↓lsG_e, ↓dMulI_i, ↓dNew_e, ↓sDct_e, ↓dMulO_l, ↓dLRgO_e, ↓dAdd_l, ↓dSub_i, ↓dMul_i, ↓dMul_l, ↓dMod_i, ↓dDiv_i, ↓dPow_i, ↓dLt_i, ↓dLe_i, ↓dGt_i, ↓dGe_i, ↓uNeg_i, ↓cMax2_i, ↓cMin2_i, ↓cAbs_i, ↓cInt_i, ↓cInt_b, ↓cLen_l, ↓cLen_q, ↓cLen_t, ↓cList_l, ↓cList_q, ↓cList_t, ↓cListO_l, ↓cListO_t, ↓dIx_l, ↓dIx_q, ↓dIx_t, ↓dIx_o', ↓exS, ↓exL, at_1, at_2, at_3, at_4, ix30, ix31, ix32, ↓dSlL_l, ↓dSlL_q, ↓asQ_l, ↓asL_l, at_0, ↓isi_non_int, ↓isi_non_bool, ↓isi_non_str, ↓isi_non_list, ↓isi_non_tuple, ↓isi_non_dict, ↓isi_bl_int, ↓isi_bl_bool, ↓isi_bl_str, ↓isi_bl_list, ↓isi_bl_tuple, ↓isi_bl_dict, ↓isi_int_int, ↓isi_int_bool, ↓isi_int_str, ↓isi_int_list, ↓isi_int_tuple, ↓isi_int_dict, ↓isi_str_int, ↓isi_str_bool, ↓isi_str_str, ↓isi_str_list, ↓isi_str_tuple, ↓isi_str_dict, ↓isi_lst_int, ↓isi_lst_bool, ↓isi_lst_str, ↓isi_lst_list, ↓isi_lst_tuple, ↓isi_lst_dict, ↓isi_sq_int, ↓isi_sq_bool, ↓isi_sq_str, ↓isi_sq_list, ↓isi_sq_tuple, ↓isi_sq_dict, ↓isi_tup_int, ↓isi_tup_bool, ↓isi_tup_str, ↓isi_tup_list, ↓isi_tup_tuple, ↓isi_tup_dict, ↓isi_dic_int, ↓isi_dic_bool, ↓isi_dic_str, ↓isi_dic_list, ↓isi_dic_tuple, ↓isi_dic_dict, if_true, if_false, Bool.not_true, Bool.not_false, true_and, and_true, reduceCtorEq, Bool.true_eq_false, Bool.false_eq_true, ite_true, ite_false, ↓exAny, ↓isLst_l, Int.toNat_natCast, Int.reduceToNat, dVar_e, sPar_e, sPar3_e, sAug_e])))
local macro_rules | `(tactic| walk_at "dls") => `(tactic| ((try simp only [gstart, gwipe, List.set_set, List.map_cons, List.map_nil, List.length_cons, List.length_nil, rep_0, rep_s, List.cons_append, List.nil_append, List.set_cons_zero, List.set_cons_succ, Nat.reduceAdd, Nat.reduceSub, Nat.zero_add, Nat.add_zero]); (try simp only [*, ↓dv0, ↓dv1, ↓dv2, ↓dv3, ↓dv4, ↓dv5, ↓dv6, ↓dv7, ↓dv8, ↓dv9, ↓dv10, ↓dv11, ↓dv12, ↓dv13, ↓dv14, ↓dv15, ↓dv16, ↓dv17, ↓dv18, ↓dv19, ↓dv20, ↓dv21, ↓dv22, ↓dv23, ↓dv24, ↓dv25, ↓dv26, ↓dv27, ↓dv28, ↓dv29, ↓dv30, ↓dv31, ↓dv32, ↓dv33, ↓dv34, ↓dv35, ↓dv36, ↓dv37, ↓dv38, ↓dv39, ↓nm0, ↓nm1, ↓nm2, ↓nm3, ↓nm4, ↓nm5, ↓nm6, ↓nm7, ↓nm8, ↓nm9, ↓nm10, ↓nm11, ↓nm12, ↓nm13, ↓nm14, ↓nm15, ↓nm16, ↓nm17, ↓nm18, ↓nm19, ↓nm20, ↓nm21, ↓nm22, ↓nm23, ↓nm24, ↓nm25, ↓nm26, ↓nm27, ↓nm28, ↓nm29, ↓nm30, ↓nm31, ↓nm32, ↓nm33, ↓nm34, ↓nm35, ↓nm36, ↓nm37, ↓nm38, ↓nm39, ↓sPar_n, ↓sPar3_n, ↓sAug_n, ↓reduceIte, List.set_set, ↓sNext_e, ↓sSeq_e, ↓sBrk_e, ↓sCnt_e, ↓sDrop_e, ↓sRet_e, ↓sRetN_e, ↓sIf_e, ↓sAsg_e, ↓sRaise_e, ↓nmG_e, ↓tupG_e, ↓gsNil_e, ↓gsCons_e, ↓subG_e, ↓dC_e, ↓dOp_e, ↓dUn_e, ↓dChain_e, ↓bOf_e, ↓bAnd_e, ↓bOr_e, ↓bNot_e, ↓bYes_e, ↓dAnd_e, ↓dOr_e, ↓dNot_e, ↓dIf_e, ↓lNil_e, ↓lCons_e, ↓dLst_e, ↓dDic0_e, ↓dDic1_e, ↓dLenSetG_e, dIsB_b, dIsNB_b, dSD_e, ↓dLstO_e, ↓dTup_e, ↓dCB_e, ↓dCall_e, ↓dCallK_e, ↓oNone_e, ↓oSome_e, ↓dSl_e, ↓dBM_e, ↓dBM0_e, ↓dFz_e, ↓dFz2_e, ↓d2_e, ↓dLone_e, ↓lStar_e, ↓dCallA_e, ↓dMakeA_e, ↓dMakeV_e, ↓dMethA_e, ↓dCMethA_e, ↓dPropA_e, ↓dFld_e, ↓sFldS_e, ↓dFzI_e, ↓fzID_o, ↓dM1_e, ↓dM0_e, ↓dRev_e, ↓mSplit_s, ↓mUpper_s, ↓exStr, ↓exZ, ↓cStrI_i, ↓cIntS_s, ↓iStrD_e, ↓dEqF_s, ↓dNeF_s, ↓dEqF_i, ↓dNeF_i, ↓dSign_s, ↓sRaiseI_e, ↓dXFld_e, ↓mPop_e, ↓dAddO_l, ↓dAddO_o, ↓dMk0_e, ↓sKeep_e, ↓sTryH_e, ↓dCVal_e, ↓dConI_e, ↓cLen_s, ↓dIx_s, ↓dSlS_s, ↓dAdd_s, ↓cTup_l, ↓pkP_e, ↓pkS_e, ↓lstG_e, ↓asI_i, ↓iSeq_e, ↓iTupD_e, ↓iRg1_e, ↓iRg2_e, ↓iZipD_e, iZrD_e, ↓iEnumD_e, ↓sFor_e, ↓dLc_e, ↓finF_e, ↓finO_e, ↓fzD_l, ↓fzD_i, ↓fzD_o, ↓fzD2_o, ↓dSetO_e, ↓mAppend_e, ↓mClear_e, ↓mReverse_e, List.map_cons, List.map_nil, List.length_cons, List.length_nil, rep_0, rep_s, List.cons_append, List.nil_append, List.getElem?_cons_zero, List.getElem?_cons_succ, List.set_cons_zero, List.set_cons_succ, Nat.reduceAdd, Nat.reduceSub, Nat.zero_add, Nat.add_zero, ↓exSS, ↓exB, ↓exI, ↓ex1, ↓ex2, ↓ex3, ↓exI1, ↓exI2, ↓exT, ↓exC, ↓exAs, ↓dAdd_i, ↓dAddI_i, ↓dSubI_i, ↓dLRg_e, ↓dIsiT_e, ↓dLenSet_e, ↓bChain3_e, ↓dLRg2_e, ↓iRg3_e, ↓dLc2_e, ↓dSlT_t, dAddT_t, ↓dNewK_e, ↓dDis1_e, ↓sDkp_e, ↓dDGet_e, ↓dDGet2_e, ↓dLVals_e, ↓kD_ex_i, ↓dSS_e, ↓dST_e, ↓dSI_e, ↓lsG_e, ↓dMulI_i, ↓dNew_e, ↓sDct_e, ↓dMulO_l, ↓dLRgO_e, ↓dAdd_l, ↓dSub_i, ↓dMul_i, ↓dMul_l, ↓dMod_i, ↓dDiv_i, ↓dPow_i, ↓dLt_i, ↓dLe_i, ↓dGt_i, ↓dGe_i, ↓uNeg_i, ↓cMax2_i, ↓cMin2_i, ↓cAbs_i, ↓cInt_i, ↓cInt_b, ↓cLen_l, ↓cLen_q, ↓cLen_t, ↓cList_l, ↓cList_q, ↓cList_t, ↓cListO_l, ↓cListO_t, ↓dIx_l, ↓dIx_q, ↓dIx_t, ↓dIx_o', ↓exS, ↓exL, at_1, at_2, at_3, at_4, ix30, ix31, ix32, ↓dSlL_l, ↓dSlL_q, ↓asQ_l, ↓asL_l, at_0, ↓isi_non_int, ↓isi_non_bool, ↓isi_non_str, ↓isi_non_list, ↓isi_non_tuple, ↓isi_non_dict, ↓isi_bl_int, ↓isi_bl_bool, ↓isi_bl_str, ↓isi_bl_list, ↓isi_bl_tuple, ↓isi_bl_dict, ↓isi_int_int, ↓isi_int_bool, ↓isi_int_str, ↓isi_int_list, ↓isi_int_tuple, ↓isi_int_dict, ↓isi_str_int, ↓isi_str_bool, ↓isi_str_str, ↓isi_str_list, ↓isi_str_tuple, ↓isi_str_dict, ↓isi_lst_int, ↓isi_lst_bool, ↓isi_lst_str, ↓isi_lst_list, ↓isi_lst_tuple, ↓isi_lst_dict, ↓isi_sq_int, ↓isi_sq_bool, ↓isi_sq_str, ↓isi_sq_list, ↓isi_sq_tuple, ↓isi_sq_dict, ↓isi_tup_int, ↓isi_tup_bool, ↓isi_tup_str, ↓isi_tup_list, ↓isi_tup_tuple, ↓isi_tup_dict, ↓isi_dic_int, ↓isi_dic_bool, ↓isi_dic_str, ↓isi_dic_list, ↓isi_dic_tuple, ↓isi_dic_dict, if_true, if_false, Bool.not_true, Bool.not_false, true_and, and_true, reduceCtorEq, Bool.true_eq_false, Bool.false_eq_true, ite_true, ite_false, ↓exAny, ↓isLst_l, Int.toNat_natCast, Int.reduceToNat, dVar_e, sPar_e, sPar3_e, sAug_e])))
--MK
theorem grown_ok {t : List (List Int)} {k z : Nat} {f : Int} (ok : TabOk t) (k1 : 1 ≤ k) (k60 : k * t.length ≤ 60) (f1 : 1 ≤ f) (f2 : f ≤ 10 ^ 29) (hz : ∀ r ∈ t, z + r.length ≤ 12) (hx : ∀ r ∈ t, ∀ x ∈ r, x ≤ 10) : TabOk (grownF t k f z) := by
  have hl := grown_len k f z t
  have h1 := ok.lo
  have hk : 1 * t.length ≤ k * t.length := Nat.mul_le_mul_right _ k1
  refine ⟨by omega, by omega, fun r hr => ?_⟩
  unfold grownF at hr
  obtain ⟨a, ha, hr⟩ := List.mem_flatMap.mp hr
  have er := List.eq_of_mem_replicate hr
  have h2 := hz a ha
  have h3 := (ok.row a ha).lo
  refine ⟨by rw [er, List.length_append, List.length_map]; omega, by rw [er, List.length_append, List.length_map, List.length_replicate]; omega, fun x hx2 => ?_⟩
  rw [er] at hx2
  rcases List.mem_append.mp hx2 with hx2 | hx2
  · rw [List.eq_of_mem_replicate hx2]; exact ⟨by decide, by decide⟩
  · obtain ⟨y, hy, rfl⟩ := List.mem_map.mp hx2
    have y0 := ((ok.row a ha).at_ y hy).1
    have y1 := hx a ha y hy
    have m0 : 0 ≤ y * f := Int.mul_nonneg y0 (by omega)
    have m1 : y * f ≤ 10 * f := Int.mul_le_mul_of_nonneg_right y1 (by omega)
    have f2 : f ≤ 100000000000000000000000000000 := f2
    exact ⟨m0, by show y * f ≤ 1000000000000000000000000000000; omega⟩
theorem p_law : Rets sp_law T_law N_law := by
  rintro _ S Φ Ψ ⟨ns, rfl, q⟩
  unfold T_law
  walk_at "dl"
  refine ⟨ns, rfl, fun S1 nd => ?_⟩
  obtain ⟨m, em, m2⟩ : ∃ m : Nat, (1 + if (1 : Int) < ((ns.map D.int).length : Int) then (1 : Int) else ((ns.map D.int).length : Int)) = (m : Int) ∧ m ≤ 2 := by
    by_cases c : (1 : Int) < ((ns.map D.int).length : Int)
    · rw [if_pos c]; exact ⟨2, rfl, by omega⟩
    · rw [if_neg c]; exact ⟨1 + (ns.map D.int).length, by omega, by omega⟩
  show _ ∧ _
  rw [em]
  refine ⟨by omega, by omega, ?_⟩
  rw [Int.toNat_natCast]
  refine for_r0 (n := m) (fun i Γ S' => ∃ o2 o3 o4 o5 o6 o7, Γ = [some (.sq (ns.map D.int)), some (.own (S.length + 1)), o2, o3, o4, o5, o6, o7] ∧ Nd S' (S.length + 1) S.length (2000 * i)) ⟨_, _, _, _, _, _, rfl, nd⟩ (fun i Γ' S2 hi hp => ?_) fun Γ' S2 hp => ?_
  · obtain ⟨o2, o3, o4, o5, o6, o7, rfl, nd2⟩ := hp
    generalize S.length + 1 = h at *
    generalize S.length = b at *
    walk_at "dl"
    refine ⟨small (by decide), h, b, _, 2, rfl, nd2, by omega, by decide, by decide, fun S3 v3 nd3 f3 len3 a3 b3 => ?_⟩
    obtain ⟨w, hw, w1, w2, ew⟩ : ∃ w : Int, 3 ≤ w ∧ 1 ≤ w ∧ w ≤ 9 ∧ atI [D.int 3, .int 9] v3 = some (.int w) := by
      have hv : v3 = 0 ∨ v3 = 1 := by omega
      rcases hv with rfl | rfl
      · exact ⟨3, by omega, by omega, by omega, rfl⟩
      · exact ⟨9, by omega, by omega, by omega, rfl⟩
    refine ixl ew ?_
    refine ⟨h, b, _, 12, 5, w, rfl, nd3, by omega, by decide, by decide, by decide, by decide, by omega, by omega, fun S4 t nd4 t1 t2 t3 => ?_⟩
    have ok : TabOk t := ⟨t1, by omega, fun r hr => ⟨(t3 r hr).1, by have := (t3 r hr).2.1; omega, fun x hx => by
      have := (t3 r hr).2.2 x hx
      exact ⟨by omega, by show x ≤ 1000000000000000000000000000000; omega⟩⟩⟩
    have hx : ∀ r ∈ t, ∀ x ∈ r, x ≤ 10 := fun r hr x hx => by have := (t3 r hr).2.2 x hx; omega
    walk_at "dl"
    refine ⟨h, b, _, w - 1, rfl, nd4, by omega, by omega, by omega, fun S5 g l nd5 f5 g0 g1 l0 l1 => ?_⟩
    refine ⟨h, b, _, t, g, l, rfl, nd5, by omega, ok, g0, by show g ≤ 1000000000000000000000000000000; omega, l0, by show l ≤ 1000000000000000000000000000000; omega, fun S6 nd6 => ⟨_, rfl, ?_⟩⟩
    rw [if_neg (by decide)]
    refine ⟨small (by decide), ?_⟩
    obtain ⟨c, c0, c1, ec⟩ : ∃ c : Int, 0 ≤ c ∧ c < 1000 ∧ atI [D.int 120, .int 240] (i : Int) = some (.int c) := by
      have hv : i = 0 ∨ i = 1 := by omega
      rcases hv with rfl | rfl
      · exact ⟨120, by omega, by omega, rfl⟩
      · exact ⟨240, by omega, by omega, rfl⟩
    refine ⟨_, ec, ?_⟩
    refine ⟨h, b, _, t, c, rfl, nd6, by omega, ok, c0, c1, fun S7 k z f nd7 f7 k1 k60 ff1 ff2 hz => ?_⟩
    have gz : g * f ≤ 10 * f := Int.mul_le_mul_of_nonneg_right (by omega) (by omega)
    have lz : l * f ≤ 10 * f := Int.mul_le_mul_of_nonneg_right (by omega) (by omega)
    have gz0 : 0 ≤ g * f := Int.mul_nonneg g0 (by omega)
    have lz0 : 0 ≤ l * f := Int.mul_nonneg l0 (by omega)
    have fz : f ≤ 100000000000000000000000000000 := ff2
    have t12 := ok.lo
    refine ⟨t, g, l, k, z, f, rfl, ok, k60, by
      obtain ⟨r, hr⟩ := List.exists_mem_of_ne_nil t (fun e => by rw [e] at t12; exact absurd t12 (by decide))
      have := hz r hr
      omega, ff1, ff2, g0, by omega, l0, by omega, hx, fun Z => ⟨_, rfl, rfl, _, _, rfl, _, _, rfl, rfl, ?_⟩⟩
    refine ⟨h, b, _, grownF t k f z, g * f, l * f, rfl, nd7.app Z, by omega, grown_ok ok k1 k60 ff1 ff2 hz hx, gz0, by show g * f ≤ 1000000000000000000000000000000; omega, lz0, by show l * f ≤ 1000000000000000000000000000000; omega, fun S8 nd8 => ⟨_, rfl, ?_⟩⟩
    rw [if_neg (by decide)]
    exact ⟨_, _, _, _, _, _, rfl, nd8.more (by omega)⟩
  · obtain ⟨o2, o3, o4, o5, o6, o7, rfl, nd2⟩ := hp
    walk_at "dl"
    exact ret_now (q _)
end DL
namespace DL
open PySem PySem.Spec PyProof.Rows L2
theorem sc_is_integer : FnScope N_is_integer P_is_integer (defScope s_is_integer) := ⟨rfl, rfl, rfl, by decide +kernel, rfl, by decide +kernel, by decide +kernel⟩
theorem d_is_integer {P : Program} {wd : World} {K : PySem.W.Frag} {mg : Str → Option Value} {base : Heap} {f : Addr} {cdv : Value} {A : Around} {outer : List Env} {s : Shared} {H : Hp} {E : XK} (hG : (A.deeper (envOfC "is_integer" (defScope s_is_integer) s.heap.objs.size f cdv)).guards = some []) (hr : Room 0 (A.deeper (envOfC "is_integer" (defScope s_is_integer) s.heap.objs.size f cdv))) (m_int : mg "int" = none) (m_isinstance : mg "isinstance" = none) (m_bool : mg "bool" = none) :
    ∃ t, JB (cxOf (L2.CX P wd) P wd K mg base N_is_integer "is_integer" (defScope s_is_integer) f cdv A outer s H E) (WD E) (defBody s_is_integer) t T_is_integer := by
  have hu : (A.deeper (envOfC "is_integer" (defScope s_is_integer) s.heap.objs.size f cdv)).units + 64 < cLine := hr.units
  exact ⟨_, (jb_one (js_ret (je_and (je_callB call_isi cd_isi rfl m_isinstance (by decide +kernel) (ja_cons (je_var 0) (ja_cons (je_ty rfl m_int (by decide +kernel)) ja_nil))) (je_and (je_not (je_callB call_isi cd_isi rfl m_isinstance (by decide +kernel) (ja_cons (je_var 0) (ja_cons (je_ty rfl m_bool (by decide +kernel)) ja_nil)))) (je_one (je_chain op_le op_le opd_le opd_le (je_var 1) (je_var 0) (je_var 2)))))))⟩
theorem sc_is_cell : FnScope N_is_cell P_is_cell (defScope s_is_cell) := ⟨rfl, rfl, rfl, by decide +kernel, rfl, by decide +kernel, by decide +kernel⟩
theorem d_is_cell {P : Program} {wd : World} {K : PySem.W.Frag} {mg : Str → Option Value} {base : Heap} {f : Addr} {cdv : Value} {A : Around} {outer : List Env} {s : Shared} {H : Hp} {E : XK} (hG : (A.deeper (envOfC "is_cell" (defScope s_is_cell) s.heap.objs.size f cdv)).guards = some []) (hr : Room 1 (A.deeper (envOfC "is_cell" (defScope s_is_cell) s.heap.objs.size f cdv))) (c_is_integer : CalG P wd K mg base "is_integer" s_is_integer 1 P_is_integer sp_is_integer) (g_MOST_CELL : ∃ t, mg "MOST_CELL" = some (.int 1000000000000000000000000000000 t)) :
    ∃ t, JB (cxOf (L2.CX P wd) P wd K mg base N_is_cell "is_cell" (defScope s_is_cell) f cdv A outer s H E) (WD E) (defBody s_is_cell) t T_is_cell := by
  have hu : (A.deeper (envOfC "is_cell" (defScope s_is_cell) s.heap.objs.size f cdv)).units + 64 < cLine := hr.units
  exact ⟨_, (jb_one (js_ret (je_callCG c_is_integer hG (hr.mono (by decide)) rfl (takes_of rfl rfl rfl rfl) (ja_cons (je_var 0) (ja_cons je_int (ja_cons (je_gint rfl g_MOST_CELL) ja_nil))))))⟩
theorem sc_is_line : FnScope N_is_line P_is_line (defScope s_is_line) := ⟨rfl, rfl, rfl, by decide +kernel, rfl, by decide +kernel, by decide +kernel⟩
theorem d_is_line {P : Program} {wd : World} {K : PySem.W.Frag} {mg : Str → Option Value} {base : Heap} {f : Addr} {cdv : Value} {A : Around} {outer : List Env} {s : Shared} {H : Hp} {E : XK} (hG : (A.deeper (envOfC "is_line" (defScope s_is_line) s.heap.objs.size f cdv)).guards = some []) (hr : Room 2 (A.deeper (envOfC "is_line" (defScope s_is_line) s.heap.objs.size f cdv))) (m_list : mg "list" = none) (m_isinstance : mg "isinstance" = none) (m_len : mg "len" = none) (g_MOST_CELLS : ∃ t, mg "MOST_CELLS" = some (.int 12 t)) (c_is_cell : CalG P wd K mg base "is_cell" s_is_cell 2 P_is_cell sp_is_cell) (m_all : mg "all" = none) :
    ∃ t, JB (cxOf (L2.CX P wd) P wd K mg base N_is_line "is_line" (defScope s_is_line) f cdv A outer s H E) (WD E) (defBody s_is_line) t T_is_line := by
  have hu : (A.deeper (envOfC "is_line" (defScope s_is_line) s.heap.objs.size f cdv)).units + 64 < cLine := hr.units
  exact ⟨_, (jb_one (js_ret (je_and (je_callB call_isi cd_isi rfl m_isinstance (by decide +kernel) (ja_cons (je_var 0) (ja_cons (je_ty rfl m_list (by decide +kernel)) ja_nil))) (je_and (je_chain op_le op_le opd_le opd_le je_int (je_callB call_lenA cd_len rfl m_len (by decide +kernel) (ja_cons (je_var 0) ja_nil)) (je_gint rfl g_MOST_CELLS)) (je_one (je_callB (cr_all rfl) cd_all rfl m_all (by decide +kernel) (ja_cons (je_lc (own := ([("cell", 1)] : List (Str × Nat))) finF finF_ok rfl sc_is_line.nd (ji_list (je_var 0)) (blkOk_by (N := N_is_line) (sc := defScope s_is_line) (by decide +kernel)) (fun _ _ _ _ _ => (jg_name 1 sc_is_line.nd)) (by exact (gk_name (vs := [1]) (i := 1))) (fun _ _ _ _ _ => jts_nil) (fun _ _ _ _ _ => (je_callCG c_is_cell hG (hr.mono (by decide)) rfl takes0 (ja_cons (je_var 1) ja_nil)))) ja_nil)))))))⟩
theorem sc_is_table : FnScope N_is_table P_is_table (defScope s_is_table) := ⟨rfl, rfl, rfl, by decide +kernel, rfl, by decide +kernel, by decide +kernel⟩
theorem d_is_table {P : Program} {wd : World} {K : PySem.W.Frag} {mg : Str → Option Value} {base : Heap} {f : Addr} {cdv : Value} {A : Around} {outer : List Env} {s : Shared} {H : Hp} {E : XK} (hG : (A.deeper (envOfC "is_table" (defScope s_is_table) s.heap.objs.size f cdv)).guards = some []) (hr : Room 3 (A.deeper (envOfC "is_table" (defScope s_is_table) s.heap.objs.size f cdv))) (m_list : mg "list" = none) (m_isinstance : mg "isinstance" = none) (m_len : mg "len" = none) (g_MOST_LINES : ∃ t, mg "MOST_LINES" = some (.int 60 t)) (c_is_line : CalG P wd K mg base "is_line" s_is_line 3 P_is_line sp_is_line) (m_all : mg "all" = none) :
    ∃ t, JB (cxOf (L2.CX P wd) P wd K mg base N_is_table "is_table" (defScope s_is_table) f cdv A outer s H E) (WD E) (defBody s_is_table) t T_is_table := by
  have hu : (A.deeper (envOfC "is_table" (defScope s_is_table) s.heap.objs.size f cdv)).units + 64 < cLine := hr.units
  exact ⟨_, (jb_one (js_ret (je_and (je_callB call_isi cd_isi rfl m_isinstance (by decide +kernel) (ja_cons (je_var 0) (ja_cons (je_ty rfl m_list (by decide +kernel)) ja_nil))) (je_and (je_chain op_le op_le opd_le opd_le je_int (je_callB call_lenA cd_len rfl m_len (by decide +kernel) (ja_cons (je_var 0) ja_nil)) (je_gint rfl g_MOST_LINES)) (je_one (je_callB (cr_all rfl) cd_all rfl m_all (by decide +kernel) (ja_cons (je_lc (own := ([("line", 1)] : List (Str × Nat))) finF finF_ok rfl sc_is_table.nd (ji_list (je_var 0)) (blkOk_by (N := N_is_table) (sc := defScope s_is_table) (by decide +kernel)) (fun _ _ _ _ _ => (jg_name 1 sc_is_table.nd)) (by exact (gk_name (vs := [1]) (i := 1))) (fun _ _ _ _ _ => jts_nil) (fun _ _ _ _ _ => (je_callCG c_is_line hG (hr.mono (by decide)) rfl takes0 (ja_cons (je_var 1) ja_nil)))) ja_nil)))))))⟩
theorem sc_need_table : FnScope N_need_table P_need_table (defScope s_need_table) := ⟨rfl, rfl, rfl, by decide +kernel, rfl, by decide +kernel, by decide +kernel⟩
theorem d_need_table {C_InvalidTable : Addr} {P : Program} {wd : World} {K : PySem.W.Frag} {mg : Str → Option Value} {base : Heap} {f : Addr} {cdv : Value} {A : Around} {outer : List Env} {s : Shared} {H : Hp} {E : XK} (hG : (A.deeper (envOfC "need_table" (defScope s_need_table) s.heap.objs.size f cdv)).guards = some []) (hr : Room 4 (A.deeper (envOfC "need_table" (defScope s_need_table) s.heap.objs.size f cdv))) (c_is_table : CalG P wd K mg base "is_table" s_is_table 4 P_is_table sp_is_table) (e_InvalidTable : ExcF K mg "InvalidTable" C_InvalidTable) :
    ∃ t, JB (cxOf (L2.CX P wd) P wd K mg base N_need_table "need_table" (defScope s_need_table) f cdv A outer s H E) (WD E) (defBody s_need_table) t (T_need_table C_InvalidTable) := by
  have hu : (A.deeper (envOfC "need_table" (defScope s_need_table) s.heap.objs.size f cdv)).units + 64 < cLine := hr.units
  exact ⟨_, (jb_one (js_if (jt_not (jt_val (je_callCG c_is_table hG (hr.mono (by decide)) rfl (takes_of rfl rfl rfl rfl) (ja_cons (je_var 0) ja_nil))))
  (jb_one (js_raiseC e_InvalidTable rfl (takes_of rfl rfl rfl rfl) rfl))
  jb_nil))⟩
theorem sc_tabs_in : FnScope N_tabs_in P_tabs_in (defScope s_tabs_in) := ⟨rfl, rfl, rfl, by decide +kernel, rfl, by decide +kernel, by decide +kernel⟩
theorem d_tabs_in {P : Program} {wd : World} {K : PySem.W.Frag} {mg : Str → Option Value} {base : Heap} {f : Addr} {cdv : Value} {A : Around} {outer : List Env} {s : Shared} {H : Hp} {E : XK} (hG : (A.deeper (envOfC "tabs_in" (defScope s_tabs_in) s.heap.objs.size f cdv)).guards = some []) (hr : Room 0 (A.deeper (envOfC "tabs_in" (defScope s_tabs_in) s.heap.objs.size f cdv))) (m_len : mg "len" = none) :
    ∃ t, JB (cxOf (L2.CX P wd) P wd K mg base N_tabs_in "tabs_in" (defScope s_tabs_in) f cdv A outer s H E) (WD E) (defBody s_tabs_in) t T_tabs_in := by
  have hu : (A.deeper (envOfC "tabs_in" (defScope s_tabs_in) s.heap.objs.size f cdv)).units + 64 < cLine := hr.units
  exact ⟨_, (jb_one (js_ret (je_lc (own := ([("cells", 1)] : List (Str × Nat))) finF finF_ok rfl sc_tabs_in.nd (ji_list (je_var 0)) (blkOk_by (N := N_tabs_in) (sc := defScope s_tabs_in) (by decide +kernel)) (fun _ _ _ _ _ => (jg_name 1 sc_tabs_in.nd)) (by exact (gk_name (vs := [1]) (i := 1))) (fun _ _ _ _ _ => jts_nil) (fun _ _ _ _ _ => (je_op op_sub opd_sub (je_callB call_lenA cd_len rfl m_len (by decide +kernel) (ja_cons (je_var 1) ja_nil)) je_int)))))⟩
theorem sc_blocks_of_column : FnScope N_blocks_of_column P_blocks_of_column (defScope s_blocks_of_column) := ⟨rfl, rfl, rfl, by decide +kernel, rfl, by decide +kernel, by decide +kernel⟩
theorem d_blocks_of_column {P : Program} {wd : World} {K : PySem.W.Frag} {mg : Str → Option Value} {base : Heap} {f : Addr} {cdv : Value} {A : Around} {outer : List Env} {s : Shared} {H : Hp} {E : XK} (hG : (A.deeper (envOfC "blocks_of_column" (defScope s_blocks_of_column) s.heap.objs.size f cdv)).guards = some []) (hr : Room 0 (A.deeper (envOfC "blocks_of_column" (defScope s_blocks_of_column) s.heap.objs.size f cdv))) (m_enumerate : mg "enumerate" = none) :
    ∃ t, JB (cxOf (L2.CX P wd) P wd K mg base N_blocks_of_column "blocks_of_column" (defScope s_blocks_of_column) f cdv A outer s H E) (WD E) (defBody s_blocks_of_column) t T_blocks_of_column := by
  have hu : (A.deeper (envOfC "blocks_of_column" (defScope s_blocks_of_column) s.heap.objs.size f cdv)).units + 64 < cLine := hr.units
  exact ⟨_, (jb_cons (js_set 2 sc_blocks_of_column.nd (je_lstO ja_nil))
  (jb_cons (js_set 3 sc_blocks_of_column.nd je_non)
  (jb_cons (js_for (passes_of rfl) rfl (ji_enum rfl m_enumerate (ja_cons (je_lst (ja_star (je_var 0) (ja_cons je_int ja_nil))) ja_nil)) (jg_tup rfl (jgs_cons (jg_name 4 sc_blocks_of_column.nd) (jgs_cons (jg_name 5 sc_blocks_of_column.nd) jgs_nil)))
  (jb_cons (js_if (JW.jt (jw_and (jt_cmp op_gt opd_gt (je_var 5) (je_var 1) (nomark _)) (jw_and1 (jt_cmp op_isN opd_isN (je_var 3) je_non (nomark _)))))
  (jb_one (js_set 3 sc_blocks_of_column.nd (je_var 4)))
  jb_nil)
  (jb_one (js_if (JW.jt (jw_and (jt_cmp op_le opd_le (je_var 5) (je_var 1) (nomark _)) (jw_and1 (jt_cmp op_notN opd_notN (je_var 3) je_non (nomark _)))))
  (jb_cons (js_expr (je_bm PySem.F.slot_list_append PySem.F.type_list_append mt_append mtd_append (je_var 2) (ja_cons (je_tup (ja_cons (je_var 1) (ja_cons (je_var 3) (ja_cons (je_op op_sub opd_sub (je_var 4) je_int) ja_nil)))) ja_nil)))
  (jb_one (js_set 3 sc_blocks_of_column.nd je_non)))
  jb_nil))))
  (jb_one (js_ret (je_fz (je_var 2)))))))⟩
theorem sc_blocks_by_tabs : FnScope N_blocks_by_tabs P_blocks_by_tabs (defScope s_blocks_by_tabs) := ⟨rfl, rfl, rfl, by decide +kernel, rfl, by decide +kernel, by decide +kernel⟩
theorem d_blocks_by_tabs {P : Program} {wd : World} {K : PySem.W.Frag} {mg : Str → Option Value} {base : Heap} {f : Addr} {cdv : Value} {A : Around} {outer : List Env} {s : Shared} {H : Hp} {E : XK} (hG : (A.deeper (envOfC "blocks_by_tabs" (defScope s_blocks_by_tabs) s.heap.objs.size f cdv)).guards = some []) (hr : Room 1 (A.deeper (envOfC "blocks_by_tabs" (defScope s_blocks_by_tabs) s.heap.objs.size f cdv))) (g_MOST_CELLS : ∃ t, mg "MOST_CELLS" = some (.int 12 t)) (m_range : mg "range" = none) (c_blocks_of_column : CalG P wd K mg base "blocks_of_column" s_blocks_of_column 1 P_blocks_of_column sp_blocks_of_column) :
    ∃ t, JB (cxOf (L2.CX P wd) P wd K mg base N_blocks_by_tabs "blocks_by_tabs" (defScope s_blocks_by_tabs) f cdv A outer s H E) (WD E) (defBody s_blocks_by_tabs) t T_blocks_by_tabs := by
  have hu : (A.deeper (envOfC "blocks_by_tabs" (defScope s_blocks_by_tabs) s.heap.objs.size f cdv)).units + 64 < cLine := hr.units
  exact ⟨_, (jb_cons (js_set 1 sc_blocks_by_tabs.nd (je_lstO ja_nil))
  (jb_cons (js_for (passes_of rfl) rfl (ji_range1 rfl m_range (ja_cons (je_op op_sub opd_sub (je_gint rfl g_MOST_CELLS) je_int) ja_nil)) (jg_name 2 sc_blocks_by_tabs.nd)
  (jb_one (js_expr (je_bm PySem.F.slot_list_extend PySem.F.type_list_extend mt_extend mtd_extend (je_var 1) (ja_cons (je_callCG c_blocks_of_column hG (hr.mono (by decide)) rfl (takes_of rfl rfl rfl rfl) (ja_cons (je_var 0) (ja_cons (je_var 2) ja_nil))) ja_nil)))))
  (jb_one (js_ret (je_fz (je_var 1))))))⟩
theorem sc_blocks_in : FnScope N_blocks_in P_blocks_in (defScope s_blocks_in) := ⟨rfl, rfl, rfl, by decide +kernel, rfl, by decide +kernel, by decide +kernel⟩
theorem d_blocks_in {P : Program} {wd : World} {K : PySem.W.Frag} {mg : Str → Option Value} {base : Heap} {f : Addr} {cdv : Value} {A : Around} {outer : List Env} {s : Shared} {H : Hp} {E : XK} (hG : (A.deeper (envOfC "blocks_in" (defScope s_blocks_in) s.heap.objs.size f cdv)).guards = some []) (hr : Room 2 (A.deeper (envOfC "blocks_in" (defScope s_blocks_in) s.heap.objs.size f cdv))) (c_blocks_by_tabs : CalG P wd K mg base "blocks_by_tabs" s_blocks_by_tabs 2 P_blocks_by_tabs sp_blocks_by_tabs) (c_tabs_in : CalG P wd K mg base "tabs_in" s_tabs_in 1 P_tabs_in sp_tabs_in) :
    ∃ t, JB (cxOf (L2.CX P wd) P wd K mg base N_blocks_in "blocks_in" (defScope s_blocks_in) f cdv A outer s H E) (WD E) (defBody s_blocks_in) t T_blocks_in := by
  have hu : (A.deeper (envOfC "blocks_in" (defScope s_blocks_in) s.heap.objs.size f cdv)).units + 64 < cLine := hr.units
  exact ⟨_, (jb_one (js_ret (je_callCG c_blocks_by_tabs hG (hr.mono (by decide)) rfl (takes_of rfl rfl rfl rfl) (ja_cons (je_callCG c_tabs_in hG (hr.mono (by decide)) rfl (takes_of rfl rfl rfl rfl) (ja_cons (je_var 0) ja_nil)) ja_nil))))⟩
theorem sc_greatest_in : FnScope N_greatest_in P_greatest_in (defScope s_greatest_in) := ⟨rfl, rfl, rfl, by decide +kernel, rfl, by decide +kernel, by decide +kernel⟩
theorem d_greatest_in {P : Program} {wd : World} {K : PySem.W.Frag} {mg : Str → Option Value} {base : Heap} {f : Addr} {cdv : Value} {A : Around} {outer : List Env} {s : Shared} {H : Hp} {E : XK} (hG : (A.deeper (envOfC "greatest_in" (defScope s_greatest_in) s.heap.objs.size f cdv)).guards = some []) (hr : Room 0 (A.deeper (envOfC "greatest_in" (defScope s_greatest_in) s.heap.objs.size f cdv))) (m_max : mg "max" = none) :
    ∃ t, JB (cxOf (L2.CX P wd) P wd K mg base N_greatest_in "greatest_in" (defScope s_greatest_in) f cdv A outer s H E) (WD E) (defBody s_greatest_in) t T_greatest_in := by
  have hu : (A.deeper (envOfC "greatest_in" (defScope s_greatest_in) s.heap.objs.size f cdv)).units + 64 < cLine := hr.units
  exact ⟨_, (jb_cons (js_asg (je_var 1) (jg_tup rfl (jgs_cons (jg_name 2 sc_greatest_in.nd) (jgs_cons (jg_name 3 sc_greatest_in.nd) (jgs_cons (jg_name 4 sc_greatest_in.nd) jgs_nil)))))
  (jb_one (js_ret (je_callB (cr_max rfl) cd_max rfl m_max (by decide +kernel) (ja_cons (je_lc (own := ([("cells", 5)] : List (Str × Nat))) finF finF_ok rfl sc_greatest_in.nd (ji_list (je_slice sl_list sld_l (je_var 0) (jo_some (je_var 3)) (jo_some (je_op op_addA opd_add (je_var 4) je_int)))) (blkOk_by (N := N_greatest_in) (sc := defScope s_greatest_in) (by decide +kernel)) (fun _ _ _ _ _ => (jg_name 5 sc_greatest_in.nd)) (by exact (gk_name (vs := [5]) (i := 5))) (fun _ _ _ _ _ => jts_nil) (fun _ _ _ _ _ => (je_ix ix_seq opd_ix (je_var 5) (je_var 2)))) ja_nil)))))⟩
theorem sc_room_of : FnScope N_room_of P_room_of (defScope s_room_of) := ⟨rfl, rfl, rfl, by decide +kernel, rfl, by decide +kernel, by decide +kernel⟩
theorem d_room_of {C_Style : Addr} {P : Program} {wd : World} {K : PySem.W.Frag} {mg : Str → Option Value} {base : Heap} {f : Addr} {cdv : Value} {A : Around} {outer : List Env} {s : Shared} {H : Hp} {E : XK} (hG : (A.deeper (envOfC "room_of" (defScope s_room_of) s.heap.objs.size f cdv)).guards = some []) (hr : Room 2 (A.deeper (envOfC "room_of" (defScope s_room_of) s.heap.objs.size f cdv))) (c_greatest_in : CalG P wd K mg base "greatest_in" s_greatest_in 1 P_greatest_in sp_greatest_in) (pr_Style_least : PropK P wd K mg base C_Style "least" 1 (pkP 1 [0] [] (sp_Style_least C_Style))) (m_max : mg "max" = none) :
    ∃ t, JB (cxOf (L2.CX P wd) P wd K mg base N_room_of "room_of" (defScope s_room_of) f cdv A outer s H E) (WD E) (defBody s_room_of) t (T_room_of C_Style) := by
  have hu : (A.deeper (envOfC "room_of" (defScope s_room_of) s.heap.objs.size f cdv)).units + 64 < cLine := hr.units
  exact ⟨_, (jb_one (js_ret (je_callB (call_max2 rfl) cd_max2 rfl m_max (by decide +kernel) (ja_cons (je_propA pr_Style_least hG (hr.mono (by decide)) (je_var 1)) (ja_cons (je_callCG c_greatest_in hG (hr.mono (by decide)) rfl (takes_of rfl rfl rfl rfl) (ja_cons (je_var 0) (ja_cons (je_var 2) ja_nil))) ja_nil)))))⟩
theorem sc_rooms_in : FnScope N_rooms_in P_rooms_in (defScope s_rooms_in) := ⟨rfl, rfl, rfl, by decide +kernel, rfl, by decide +kernel, by decide +kernel⟩
theorem d_rooms_in {C_Style : Addr} {P : Program} {wd : World} {K : PySem.W.Frag} {mg : Str → Option Value} {base : Heap} {f : Addr} {cdv : Value} {A : Around} {outer : List Env} {s : Shared} {H : Hp} {E : XK} (hG : (A.deeper (envOfC "rooms_in" (defScope s_rooms_in) s.heap.objs.size f cdv)).guards = some []) (hr : Room 3 (A.deeper (envOfC "rooms_in" (defScope s_rooms_in) s.heap.objs.size f cdv))) (c_blocks_in : CalG P wd K mg base "blocks_in" s_blocks_in 3 P_blocks_in sp_blocks_in) (c_room_of : CalG P wd K mg base "room_of" s_room_of 3 P_room_of (sp_room_of C_Style)) (m_range : mg "range" = none) :
    ∃ t, JB (cxOf (L2.CX P wd) P wd K mg base N_rooms_in "rooms_in" (defScope s_rooms_in) f cdv A outer s H E) (WD E) (defBody s_rooms_in) t (T_rooms_in C_Style) := by
  have hu : (A.deeper (envOfC "rooms_in" (defScope s_rooms_in) s.heap.objs.size f cdv)).units + 64 < cLine := hr.units
  exact ⟨_, (jb_cons (js_setLc 2 (own := ([("cells", 6)] : List (Str × Nat))) finO finO_ok rfl sc_rooms_in.nd (ji_list (je_var 0)) (blkOk_by (N := N_rooms_in) (sc := defScope s_rooms_in) (by decide +kernel)) (fun _ _ _ _ _ => (jg_name 6 sc_rooms_in.nd)) (by exact (gk_name (vs := [6]) (i := 6))) (fun _ _ _ _ _ => jts_nil) (fun _ _ _ _ _ => (je_lstO ja_nil)))
  (jb_cons (js_for (passes_of rfl) rfl (ji_list (je_callCG c_blocks_in hG (hr.mono (by decide)) rfl (takes_of rfl rfl rfl rfl) (ja_cons (je_var 0) ja_nil))) (jg_name 3 sc_rooms_in.nd)
  (jb_cons (js_set 4 sc_rooms_in.nd (je_callCG c_room_of hG (hr.mono (by decide)) rfl (takes_of rfl rfl rfl rfl) (ja_cons (je_var 0) (ja_cons (je_var 1) (ja_cons (je_var 3) ja_nil)))))
  (jb_one (js_for (passes_of rfl) rfl (ji_range2 rfl m_range (ja_cons (je_ix ix_seq opd_ix (je_var 3) je_int) (ja_cons (je_op op_addA opd_add (je_ix ix_seq opd_ix (je_var 3) je_int) je_int) ja_nil))) (jg_name 5 sc_rooms_in.nd)
  (jb_one (js_expr (je_bm PySem.F.slot_list_append PySem.F.type_list_append mt_append mtd_append (je_ix ix_seq opd_ix (je_var 2) (je_var 5)) (ja_cons (je_var 4) ja_nil))))))))
  (jb_one (js_ret (je_var 2)))))⟩
theorem sc_stops_in : FnScope N_stops_in P_stops_in (defScope s_stops_in) := ⟨rfl, rfl, rfl, by decide +kernel, rfl, by decide +kernel, by decide +kernel⟩
theorem d_stops_in {C_Style : Addr} {P : Program} {wd : World} {K : PySem.W.Frag} {mg : Str → Option Value} {base : Heap} {f : Addr} {cdv : Value} {A : Around} {outer : List Env} {s : Shared} {H : Hp} {E : XK} (hG : (A.deeper (envOfC "stops_in" (defScope s_stops_in) s.heap.objs.size f cdv)).guards = some []) (hr : Room 4 (A.deeper (envOfC "stops_in" (defScope s_stops_in) s.heap.objs.size f cdv))) (c_rooms_in : CalG P wd K mg base "rooms_in" s_rooms_in 4 P_rooms_in (sp_rooms_in C_Style)) (pr_Style_gap : PropK P wd K mg base C_Style "gap" 1 (pkP 1 [0] [] (sp_Style_gap C_Style))) :
    ∃ t, JB (cxOf (L2.CX P wd) P wd K mg base N_stops_in "stops_in" (defScope s_stops_in) f cdv A outer s H E) (WD E) (defBody s_stops_in) t (T_stops_in C_Style) := by
  have hu : (A.deeper (envOfC "stops_in" (defScope s_stops_in) s.heap.objs.size f cdv)).units + 64 < cLine := hr.units
  exact ⟨_, (jb_cons (js_set 2 sc_stops_in.nd (je_lstO ja_nil))
  (jb_cons (js_for (passes_of rfl) rfl (ji_list (je_fz2 (je_callCG c_rooms_in hG (hr.mono (by decide)) rfl (takes_of rfl rfl rfl rfl) (ja_cons (je_var 0) (ja_cons (je_var 1) ja_nil))))) (jg_name 3 sc_stops_in.nd)
  (jb_cons (js_par 4 5 rfl sc_stops_in.nd (ja_cons je_int (ja_cons (je_lstO ja_nil) ja_nil)))
  (jb_cons (js_for (passes_of rfl) rfl (ji_list (je_var 3)) (jg_name 6 sc_stops_in.nd)
  (jb_cons (js_aug 4 sc_stops_in.nd (je_op op_addA opd_add (je_var 6) (je_propA pr_Style_gap hG (hr.mono (by decide)) (je_var 1))) ip_add ipd_addI)
  (jb_one (js_expr (je_bm PySem.F.slot_list_append PySem.F.type_list_append mt_append mtd_append (je_var 5) (ja_cons (je_var 4) ja_nil))))))
  (jb_one (js_expr (je_bm PySem.F.slot_list_append PySem.F.type_list_append mt_append mtd_append (je_var 2) (ja_cons (je_fz (je_var 5)) ja_nil)))))))
  (jb_one (js_ret (je_fz (je_var 2))))))⟩
theorem sc_ends_in : FnScope N_ends_in P_ends_in (defScope s_ends_in) := ⟨rfl, rfl, rfl, by decide +kernel, rfl, by decide +kernel, by decide +kernel⟩
theorem d_ends_in {C_Style : Addr} {P : Program} {wd : World} {K : PySem.W.Frag} {mg : Str → Option Value} {base : Heap} {f : Addr} {cdv : Value} {A : Around} {outer : List Env} {s : Shared} {H : Hp} {E : XK} (hG : (A.deeper (envOfC "ends_in" (defScope s_ends_in) s.heap.objs.size f cdv)).guards = some []) (hr : Room 5 (A.deeper (envOfC "ends_in" (defScope s_ends_in) s.heap.objs.size f cdv))) (c_stops_in : CalG P wd K mg base "stops_in" s_stops_in 5 P_stops_in (sp_stops_in C_Style)) (m_zip : mg "zip" = none) :
    ∃ t, JB (cxOf (L2.CX P wd) P wd K mg base N_ends_in "ends_in" (defScope s_ends_in) f cdv A outer s H E) (WD E) (defBody s_ends_in) t (T_ends_in C_Style) := by
  have hu : (A.deeper (envOfC "ends_in" (defScope s_ends_in) s.heap.objs.size f cdv)).units + 64 < cLine := hr.units
  exact ⟨_, (jb_cons (js_set 2 sc_ends_in.nd (je_lstO ja_nil))
  (jb_cons (js_for (passes_of rfl) rfl (ji_zip rfl m_zip (ja_cons (je_var 0) (ja_cons (je_callCG c_stops_in hG (hr.mono (by decide)) rfl (takes_of rfl rfl rfl rfl) (ja_cons (je_var 0) (ja_cons (je_var 1) ja_nil))) ja_nil))) (jg_tup rfl (jgs_cons (jg_name 3 sc_ends_in.nd) (jgs_cons (jg_name 4 sc_ends_in.nd) jgs_nil)))
  (jb_cons (js_set 5 sc_ends_in.nd (je_if (jt_cmp (op_neD hu) opd_ne (je_var 4) (je_lst ja_nil) (nomark _)) (je_ix ix_seq opd_ix (je_var 4) (je_neg je_int)) je_int))
  (jb_one (js_expr (je_bm PySem.F.slot_list_append PySem.F.type_list_append mt_append mtd_append (je_var 2) (ja_cons (je_op op_addA opd_add (je_var 5) (je_ix ix_seq opd_ix (je_var 3) (je_neg je_int))) ja_nil))))))
  (jb_one (js_ret (je_fz (je_var 2))))))⟩
theorem sc_bottom_of : FnScope N_bottom_of P_bottom_of (defScope s_bottom_of) := ⟨rfl, rfl, rfl, by decide +kernel, rfl, by decide +kernel, by decide +kernel⟩
theorem d_bottom_of {P : Program} {wd : World} {K : PySem.W.Frag} {mg : Str → Option Value} {base : Heap} {f : Addr} {cdv : Value} {A : Around} {outer : List Env} {s : Shared} {H : Hp} {E : XK} (hG : (A.deeper (envOfC "bottom_of" (defScope s_bottom_of) s.heap.objs.size f cdv)).guards = some []) (hr : Room 0 (A.deeper (envOfC "bottom_of" (defScope s_bottom_of) s.heap.objs.size f cdv))) (m_sum : mg "sum" = none) :
    ∃ t, JB (cxOf (L2.CX P wd) P wd K mg base N_bottom_of "bottom_of" (defScope s_bottom_of) f cdv A outer s H E) (WD E) (defBody s_bottom_of) t T_bottom_of := by
  have hu : (A.deeper (envOfC "bottom_of" (defScope s_bottom_of) s.heap.objs.size f cdv)).units + 64 < cLine := hr.units
  exact ⟨_, (jb_one (js_ret (je_op op_sub opd_sub (je_ix ix_seq opd_ix (je_var 0) je_int) (je_callB (cr_sum rfl) cd_sum rfl m_sum (by decide +kernel) (ja_cons (je_lc (own := ([("count", 1), ("slope", 2)] : List (Str × Nat))) finF finF_ok rfl sc_bottom_of.nd (ji_list (je_ix ix_seq opd_ix (je_var 0) je_int)) (blkOk_by (N := N_bottom_of) (sc := defScope s_bottom_of) (by decide +kernel)) (fun _ _ _ _ _ => (jg_tup rfl (jgs_cons (jg_name 1 sc_bottom_of.nd) (jgs_cons (jg_name 2 sc_bottom_of.nd) jgs_nil)))) (by exact (gk_tup (gks_name (vs := [1, 2]) (i := 1) (gks_name (vs := [1, 2]) (i := 2) (gks_nil (vs := [1, 2])))))) (fun _ _ _ _ _ => jts_nil) (fun _ _ _ _ _ => (je_var 1))) ja_nil)))))⟩
theorem sc_block_steps : FnScope N_block_steps P_block_steps (defScope s_block_steps) := ⟨rfl, rfl, rfl, by decide +kernel, rfl, by decide +kernel, by decide +kernel⟩
theorem d_block_steps {P : Program} {wd : World} {K : PySem.W.Frag} {mg : Str → Option Value} {base : Heap} {f : Addr} {cdv : Value} {A : Around} {outer : List Env} {s : Shared} {H : Hp} {E : XK} (hG : (A.deeper (envOfC "block_steps" (defScope s_block_steps) s.heap.objs.size f cdv)).guards = some []) (hr : Room 0 (A.deeper (envOfC "block_steps" (defScope s_block_steps) s.heap.objs.size f cdv))) (m_sorted : mg "sorted" = none) (m_set : mg "set" = none) (m_zip : mg "zip" = none) (m_len : mg "len" = none) :
    ∃ t, JB (cxOf (L2.CX P wd) P wd K mg base N_block_steps "block_steps" (defScope s_block_steps) f cdv A outer s H E) (WD E) (defBody s_block_steps) t T_block_steps := by
  have hu : (A.deeper (envOfC "block_steps" (defScope s_block_steps) s.heap.objs.size f cdv)).units + 64 < cLine := hr.units
  exact ⟨_, (jb_cons (js_par 2 3 rfl sc_block_steps.nd (ja_cons (je_lstO ja_nil) (ja_cons je_int ja_nil)))
  (jb_cons (js_set 4 sc_block_steps.nd (je_rev (je_si rfl rfl m_sorted rfl m_set (je_lc (own := ([("cell", 7)] : List (Str × Nat))) finF finF_ok rfl sc_block_steps.nd (ji_list (je_var 0)) (blkOk_by (N := N_block_steps) (sc := defScope s_block_steps) (by decide +kernel)) (fun _ _ _ _ _ => (jg_name 7 sc_block_steps.nd)) (by exact (gk_name (vs := [7]) (i := 7))) (fun _ _ _ _ _ => (jts_one (jt_cmp op_gt opd_gt (je_var 7) (je_var 1) (nomark _)))) (fun _ _ _ _ _ => (je_var 7))))))
  (jb_cons (js_for (passes_of rfl) rfl (ji_zip rfl m_zip (ja_cons (je_var 4) (ja_cons (je_op op_addA opd_add (je_slice sl_list sld_l (je_var 4) (jo_some je_int) jo_none) (je_lst (ja_cons (je_var 1) ja_nil))) ja_nil))) (jg_tup rfl (jgs_cons (jg_name 5 sc_block_steps.nd) (jgs_cons (jg_name 6 sc_block_steps.nd) jgs_nil)))
  (jb_cons (js_aug 3 sc_block_steps.nd (je_callB call_lenA cd_len rfl m_len (by decide +kernel) (ja_cons (je_lc (own := ([("cell", 7)] : List (Str × Nat))) finF finF_ok rfl sc_block_steps.nd (ji_list (je_var 0)) (blkOk_by (N := N_block_steps) (sc := defScope s_block_steps) (by decide +kernel)) (fun _ _ _ _ _ => (jg_name 7 sc_block_steps.nd)) (by exact (gk_name (vs := [7]) (i := 7))) (fun _ _ _ _ _ => (jts_one (jt_cmp op_eq opd_eqF (je_var 7) (je_var 5) (nomark _)))) (fun _ _ _ _ _ => (je_var 7))) ja_nil)) ip_add ipd_addI)
  (jb_one (js_expr (je_bm PySem.F.slot_list_append PySem.F.type_list_append mt_append mtd_append (je_var 2) (ja_cons (je_tup (ja_cons (je_op op_sub opd_sub (je_var 5) (je_var 6)) (ja_cons (je_var 3) ja_nil))) ja_nil))))))
  (jb_one (js_ret (je_fz (je_var 2)))))))⟩
theorem sc_merged_steps : FnScope N_merged_steps P_merged_steps (defScope s_merged_steps) := ⟨rfl, rfl, rfl, by decide +kernel, rfl, by decide +kernel, by decide +kernel⟩
theorem d_merged_steps {P : Program} {wd : World} {K : PySem.W.Frag} {mg : Str → Option Value} {base : Heap} {f : Addr} {cdv : Value} {A : Around} {outer : List Env} {s : Shared} {H : Hp} {E : XK} (hG : (A.deeper (envOfC "merged_steps" (defScope s_merged_steps) s.heap.objs.size f cdv)).guards = some []) (hr : Room 0 (A.deeper (envOfC "merged_steps" (defScope s_merged_steps) s.heap.objs.size f cdv))) (m_sorted : mg "sorted" = none) :
    ∃ t, JB (cxOf (L2.CX P wd) P wd K mg base N_merged_steps "merged_steps" (defScope s_merged_steps) f cdv A outer s H E) (WD E) (defBody s_merged_steps) t T_merged_steps := by
  have hu : (A.deeper (envOfC "merged_steps" (defScope s_merged_steps) s.heap.objs.size f cdv)).units + 64 < cLine := hr.units
  exact ⟨_, (jb_cons (js_set 2 sc_merged_steps.nd je_dnewK)
  (jb_cons (js_for (passes_of rfl) rfl (ji_list (je_op op_addA opd_add (je_var 0) (je_var 1))) (jg_tup rfl (jgs_cons (jg_name 3 sc_merged_steps.nd) (jgs_cons (jg_name 4 sc_merged_steps.nd) jgs_nil)))
  (jb_one (js_dkp hu (je_var 2) (je_var 4) (je_op op_addA opd_add (je_dget2 hu (je_var 2) (je_var 4) je_int ⟨rfl, rfl, rfl, rfl⟩) (je_var 3)))))
  (jb_one (js_ret (je_lc (own := ([("slope", 4)] : List (Str × Nat))) finF finF_ok rfl sc_merged_steps.nd (ji_list (je_sd rfl rfl m_sorted (je_var 2))) (blkOk_by (N := N_merged_steps) (sc := defScope s_merged_steps) (by decide +kernel)) (fun _ _ _ _ _ => (jg_name 4 sc_merged_steps.nd)) (by exact (gk_name (vs := [4]) (i := 4))) (fun _ _ _ _ _ => jts_nil) (fun _ _ _ _ _ => (je_tup (ja_cons (je_dget hu (je_var 2) (je_var 4)) (ja_cons (je_var 4) ja_nil)))))))))⟩
theorem sc_summed_curve : FnScope N_summed_curve P_summed_curve (defScope s_summed_curve) := ⟨rfl, rfl, rfl, by decide +kernel, rfl, by decide +kernel, by decide +kernel⟩
theorem d_summed_curve {P : Program} {wd : World} {K : PySem.W.Frag} {mg : Str → Option Value} {base : Heap} {f : Addr} {cdv : Value} {A : Around} {outer : List Env} {s : Shared} {H : Hp} {E : XK} (hG : (A.deeper (envOfC "summed_curve" (defScope s_summed_curve) s.heap.objs.size f cdv)).guards = some []) (hr : Room 1 (A.deeper (envOfC "summed_curve" (defScope s_summed_curve) s.heap.objs.size f cdv))) (c_bottom_of : CalG P wd K mg base "bottom_of" s_bottom_of 1 P_bottom_of sp_bottom_of) (m_max : mg "max" = none) (m_sorted : mg "sorted" = none) (m_zip : mg "zip" = none) (c_merged_steps : CalG P wd K mg base "merged_steps" s_merged_steps 1 P_merged_steps sp_merged_steps) :
    ∃ t, JB (cxOf (L2.CX P wd) P wd K mg base N_summed_curve "summed_curve" (defScope s_summed_curve) f cdv A outer s H E) (WD E) (defBody s_summed_curve) t T_summed_curve := by
  have hu : (A.deeper (envOfC "summed_curve" (defScope s_summed_curve) s.heap.objs.size f cdv)).units + 64 < cLine := hr.units
  exact ⟨_, (jb_cons (js_set 1 sc_summed_curve.nd (je_callB (cr_max rfl) cd_max rfl m_max (by decide +kernel) (ja_cons (je_lc (own := ([("curve", 12)] : List (Str × Nat))) finF finF_ok rfl sc_summed_curve.nd (ji_list (je_var 0)) (blkOk_by (N := N_summed_curve) (sc := defScope s_summed_curve) (by decide +kernel)) (fun _ _ _ _ _ => (jg_name 12 sc_summed_curve.nd)) (by exact (gk_name (vs := [12]) (i := 12))) (fun _ _ _ _ _ => jts_nil) (fun _ _ _ _ _ => (je_callCG c_bottom_of hG (hr.mono (by decide)) rfl takes0 (ja_cons (je_var 12) ja_nil)))) ja_nil)))
  (jb_cons (js_set 2 sc_summed_curve.nd je_dnewK)
  (jb_cons (js_for (passes_of rfl) rfl (ji_list (je_var 0)) (jg_tup rfl (jgs_cons (jg_name 3 sc_summed_curve.nd) (jgs_cons (jg_name 4 sc_summed_curve.nd) jgs_nil)))
  (jb_cons (js_par 5 6 rfl sc_summed_curve.nd (ja_cons (je_var 3) (ja_cons je_int ja_nil)))
  (jb_one (js_for (passes_of rfl) rfl (ji_list (je_var 4)) (jg_tup rfl (jgs_cons (jg_name 7 sc_summed_curve.nd) (jgs_cons (jg_name 8 sc_summed_curve.nd) jgs_nil)))
  (jb_cons (js_dkp hu (je_var 2) (je_var 5) (je_op op_sub opd_sub (je_op op_addA opd_add (je_dget2 hu (je_var 2) (je_var 5) je_int ⟨rfl, rfl, rfl, rfl⟩) (je_var 8)) (je_var 6)))
  (jb_one (js_par 5 6 rfl sc_summed_curve.nd (ja_cons (je_op op_sub opd_sub (je_var 5) (je_var 7)) (ja_cons (je_var 8) ja_nil)))))))))
  (jb_cons (js_setLc 9 (own := ([("place", 5)] : List (Str × Nat))) finF finF_ok rfl sc_summed_curve.nd (ji_list (je_sdR rfl rfl m_sorted (je_var 2) (pk_cons (je_bl (W := WD E)).pe pk_nil))) (blkOk_by (N := N_summed_curve) (sc := defScope s_summed_curve) (by decide +kernel)) (fun _ _ _ _ _ => (jg_name 5 sc_summed_curve.nd)) (by exact (gk_name (vs := [5]) (i := 5))) (fun _ _ _ _ _ => (jts_one (jt_cmp op_gt opd_gt (je_var 5) (je_var 1) (nomark _)))) (fun _ _ _ _ _ => (je_var 5)))
  (jb_cons (js_par 10 8 rfl sc_summed_curve.nd (ja_cons (je_lstO ja_nil) (ja_cons je_int ja_nil)))
  (jb_cons (js_for (passes_of rfl) rfl (ji_zip rfl m_zip (ja_cons (je_var 9) (ja_cons (je_op op_addA opd_add (je_slice sl_list sld_l (je_var 9) (jo_some je_int) jo_none) (je_lst (ja_cons (je_var 1) ja_nil))) ja_nil))) (jg_tup rfl (jgs_cons (jg_name 5 sc_summed_curve.nd) (jgs_cons (jg_name 11 sc_summed_curve.nd) jgs_nil)))
  (jb_cons (js_aug 8 sc_summed_curve.nd (je_dget hu (je_var 2) (je_var 5)) ip_add ipd_addI)
  (jb_one (js_expr (je_bm PySem.F.slot_list_append PySem.F.type_list_append mt_append mtd_append (je_var 10) (ja_cons (je_tup (ja_cons (je_op op_sub opd_sub (je_var 5) (je_var 11)) (ja_cons (je_var 8) ja_nil))) ja_nil))))))
  (jb_one (js_ret (je_tup (ja_cons (je_callB (cr_max rfl) cd_max rfl m_max (by decide +kernel) (ja_cons (je_lc (own := ([("top", 3), ("steps", 4)] : List (Str × Nat))) finF finF_ok rfl sc_summed_curve.nd (ji_list (je_var 0)) (blkOk_by (N := N_summed_curve) (sc := defScope s_summed_curve) (by decide +kernel)) (fun _ _ _ _ _ => (jg_tup rfl (jgs_cons (jg_name 3 sc_summed_curve.nd) (jgs_cons (jg_name 4 sc_summed_curve.nd) jgs_nil)))) (by exact (gk_tup (gks_name (vs := [3, 4]) (i := 3) (gks_name (vs := [3, 4]) (i := 4) (gks_nil (vs := [3, 4])))))) (fun _ _ _ _ _ => jts_nil) (fun _ _ _ _ _ => (je_var 3))) ja_nil)) (ja_cons (je_callCG c_merged_steps hG (hr.mono (by decide)) rfl (takes_of rfl rfl rfl rfl) (ja_cons (je_fz (je_var 10)) (ja_cons (je_lst ja_nil) ja_nil))) ja_nil)))))))))))⟩
theorem sc_run_end : FnScope N_run_end P_run_end (defScope s_run_end) := ⟨rfl, rfl, rfl, by decide +kernel, rfl, by decide +kernel, by decide +kernel⟩
theorem d_run_end {P : Program} {wd : World} {K : PySem.W.Frag} {mg : Str → Option Value} {base : Heap} {f : Addr} {cdv : Value} {A : Around} {outer : List Env} {s : Shared} {H : Hp} {E : XK} (hG : (A.deeper (envOfC "run_end" (defScope s_run_end) s.heap.objs.size f cdv)).guards = some []) (hr : Room 0 (A.deeper (envOfC "run_end" (defScope s_run_end) s.heap.objs.size f cdv))) (m_len : mg "len" = none) :
    ∃ t, JB (cxOf (L2.CX P wd) P wd K mg base N_run_end "run_end" (defScope s_run_end) f cdv A outer s H E) (WD E) (defBody s_run_end) t T_run_end := by
  have hu : (A.deeper (envOfC "run_end" (defScope s_run_end) s.heap.objs.size f cdv)).units + 64 < cLine := hr.units
  exact ⟨_, (jb_cons (js_set 3 sc_run_end.nd (je_var 2))
  (jb_cons (js_while (passes_of rfl) (JW.jt (jw_and (jt_cmp op_lt opd_lt (je_op op_addA opd_add (je_var 3) je_int) (je_callB call_lenA cd_len rfl m_len (by decide +kernel) (ja_cons (je_var 0) ja_nil)) (nomark _)) (jw_and1 (jt_cmp op_gt opd_gt (je_callB call_lenA cd_len rfl m_len (by decide +kernel) (ja_cons (je_ix ix_seq opd_ix (je_var 0) (je_op op_addA opd_add (je_var 3) je_int)) ja_nil)) (je_op op_addA opd_add (je_var 1) je_int) (nomark _)))))
  (jb_one (js_aug 3 sc_run_end.nd je_int ip_add ipd_addI)))
  (jb_one (js_ret (je_var 3)))))⟩
theorem sc_lines_curve : FnScope N_lines_curve P_lines_curve (defScope s_lines_curve) := ⟨rfl, rfl, rfl, by decide +kernel, rfl, by decide +kernel, by decide +kernel⟩
theorem d_lines_curve {sp_rec : DSpec} {nn : Nat} {P : Program} {wd : World} {K : PySem.W.Frag} {mg : Str → Option Value} {base : Heap} {f : Addr} {cdv : Value} {A : Around} {outer : List Env} {s : Shared} {H : Hp} {E : XK} (hG : (A.deeper (envOfC "lines_curve" (defScope s_lines_curve) s.heap.objs.size f cdv)).guards = some []) (hr : Room (2 + nn) (A.deeper (envOfC "lines_curve" (defScope s_lines_curve) s.heap.objs.size f cdv))) (m_len : mg "len" = none) (c_run_end : CalG P wd K mg base "run_end" s_run_end 1 P_run_end sp_run_end) (c_rec : CalG P wd K mg base "lines_curve" s_lines_curve (2 + nn) P_lines_curve sp_rec) (c_block_steps : CalG P wd K mg base "block_steps" s_block_steps 1 P_block_steps sp_block_steps) (c_merged_steps : CalG P wd K mg base "merged_steps" s_merged_steps 1 P_merged_steps sp_merged_steps) (c_summed_curve : CalG P wd K mg base "summed_curve" s_summed_curve 2 P_summed_curve sp_summed_curve) :
    ∃ t, JB (cxOf (L2.CX P wd) P wd K mg base N_lines_curve "lines_curve" (defScope s_lines_curve) f cdv A outer s H E) (WD E) (defBody s_lines_curve) t (T_lines_curve sp_rec) := by
  have hu : (A.deeper (envOfC "lines_curve" (defScope s_lines_curve) s.heap.objs.size f cdv)).units + 64 < cLine := hr.units
  exact ⟨_, (jb_cons (js_par 6 7 rfl sc_lines_curve.nd (ja_cons (je_lstO ja_nil) (ja_cons (je_var 4) ja_nil)))
  (jb_cons (js_while (passes_of rfl) (jt_cmp op_le opd_le (je_var 7) (je_var 5) (nomark _))
  (jb_one (js_if (jt_cmp op_le opd_le (je_callB call_lenA cd_len rfl m_len (by decide +kernel) (ja_cons (je_ix ix_seq opd_ix (je_var 0) (je_var 7)) ja_nil)) (je_op op_addA opd_add (je_var 3) je_int) (nomark _))
  (jb_cons (js_set 8 sc_lines_curve.nd (je_ix ix_seq opd_ix (je_ix ix_seq opd_ix (je_var 0) (je_var 7)) (je_neg je_int)))
  (jb_cons (js_expr (je_bm PySem.F.slot_list_append PySem.F.type_list_append mt_append mtd_append (je_var 6) (ja_cons (je_tup (ja_cons (je_ix ix_seq opd_ix (je_var 2) (je_var 7)) (ja_cons (je_if (jt_cmp op_gt opd_gt (je_var 8) je_int (nomark _)) (je_lst (ja_cons (je_tup (ja_cons (je_var 8) (ja_cons je_int ja_nil))) ja_nil)) (je_lst ja_nil)) ja_nil))) ja_nil)))
  (jb_one (js_aug 7 sc_lines_curve.nd je_int ip_add ipd_addI))))
  (jb_cons (js_set 9 sc_lines_curve.nd (je_callCG c_run_end hG (hr.mono (by omega)) rfl (takes_of rfl rfl rfl rfl) (ja_cons (je_var 0) (ja_cons (je_var 3) (ja_cons (je_var 7) ja_nil)))))
  (jb_cons (js_asg (je_callCG c_rec hG (hr.mono (by omega)) rfl (takes_of rfl rfl rfl rfl) (ja_cons (je_var 0) (ja_cons (je_var 1) (ja_cons (je_var 2) (ja_cons (je_op op_addA opd_add (je_var 3) je_int) (ja_cons (je_var 7) (ja_cons (je_var 9) ja_nil))))))) (jg_tup rfl (jgs_cons (jg_name 10 sc_lines_curve.nd) (jgs_cons (jg_name 11 sc_lines_curve.nd) jgs_nil))))
  (jb_cons (js_set 12 sc_lines_curve.nd (je_callCG c_block_steps hG (hr.mono (by omega)) rfl (takes_of rfl rfl rfl rfl) (ja_cons (je_lc (own := ([("cells", 13)] : List (Str × Nat))) finF finF_ok rfl sc_lines_curve.nd (ji_list (je_slice sl_list sld_l (je_var 0) (jo_some (je_var 7)) (jo_some (je_op op_addA opd_add (je_var 9) je_int)))) (blkOk_by (N := N_lines_curve) (sc := defScope s_lines_curve) (by decide +kernel)) (fun _ _ _ _ _ => (jg_name 13 sc_lines_curve.nd)) (by exact (gk_name (vs := [13]) (i := 13))) (fun _ _ _ _ _ => jts_nil) (fun _ _ _ _ _ => (je_ix ix_seq opd_ix (je_var 13) (je_var 3)))) (ja_cons (je_var 1) ja_nil))))
  (jb_cons (js_expr (je_bm PySem.F.slot_list_append PySem.F.type_list_append mt_append mtd_append (je_var 6) (ja_cons (je_tup (ja_cons (je_var 10) (ja_cons (je_callCG c_merged_steps hG (hr.mono (by omega)) rfl (takes_of rfl rfl rfl rfl) (ja_cons (je_var 12) (ja_cons (je_var 11) ja_nil))) ja_nil))) ja_nil)))
  (jb_one (js_set 7 sc_lines_curve.nd (je_op op_addA opd_add (je_var 9) je_int))))))))))
  (jb_one (js_ret (je_callCG c_summed_curve hG (hr.mono (by omega)) rfl (takes_of rfl rfl rfl rfl) (ja_cons (je_fz (je_var 6)) ja_nil))))))⟩
theorem sc_page_curve : FnScope N_page_curve P_page_curve (defScope s_page_curve) := ⟨rfl, rfl, rfl, by decide +kernel, rfl, by decide +kernel, by decide +kernel⟩
theorem d_page_curve {C_Style : Addr} {P : Program} {wd : World} {K : PySem.W.Frag} {mg : Str → Option Value} {base : Heap} {f : Addr} {cdv : Value} {A : Around} {outer : List Env} {s : Shared} {H : Hp} {E : XK} (hG : (A.deeper (envOfC "page_curve" (defScope s_page_curve) s.heap.objs.size f cdv)).guards = some []) (hr : Room 14 (A.deeper (envOfC "page_curve" (defScope s_page_curve) s.heap.objs.size f cdv))) (c_lines_curve : CalG P wd K mg base "lines_curve" s_lines_curve 14 P_lines_curve (sp_lines_curve 12)) (m_len : mg "len" = none) (c_ends_in : CalG P wd K mg base "ends_in" s_ends_in 6 P_ends_in (sp_ends_in C_Style)) (pr_Style_least : PropK P wd K mg base C_Style "least" 1 (pkP 1 [0] [] (sp_Style_least C_Style))) :
    ∃ t, JB (cxOf (L2.CX P wd) P wd K mg base N_page_curve "page_curve" (defScope s_page_curve) f cdv A outer s H E) (WD E) (defBody s_page_curve) t (T_page_curve C_Style) := by
  have hu : (A.deeper (envOfC "page_curve" (defScope s_page_curve) s.heap.objs.size f cdv)).units + 64 < cLine := hr.units
  exact ⟨_, (jb_one (js_ret (je_callCG c_lines_curve hG (hr.mono (by decide)) rfl (takes_of rfl rfl rfl rfl) (ja_cons (je_var 0) (ja_cons (je_propA pr_Style_least hG (hr.mono (by decide)) (je_var 1)) (ja_cons (je_callCG c_ends_in hG (hr.mono (by decide)) rfl (takes_of rfl rfl rfl rfl) (ja_cons (je_var 0) (ja_cons (je_var 1) ja_nil))) (ja_cons je_int (ja_cons je_int (ja_cons (je_op op_sub opd_sub (je_callB call_lenA cd_len rfl m_len (by decide +kernel) (ja_cons (je_var 0) ja_nil)) je_int) ja_nil)))))))))⟩
theorem sc_narrowest : FnScope N_narrowest P_narrowest (defScope s_narrowest) := ⟨rfl, rfl, rfl, by decide +kernel, rfl, by decide +kernel, by decide +kernel⟩
theorem d_narrowest {C_Style : Addr} {P : Program} {wd : World} {K : PySem.W.Frag} {mg : Str → Option Value} {base : Heap} {f : Addr} {cdv : Value} {A : Around} {outer : List Env} {s : Shared} {H : Hp} {E : XK} (hG : (A.deeper (envOfC "narrowest" (defScope s_narrowest) s.heap.objs.size f cdv)).guards = some []) (hr : Room 15 (A.deeper (envOfC "narrowest" (defScope s_narrowest) s.heap.objs.size f cdv))) (c_need_table : CalG P wd K mg base "need_table" s_need_table 5 P_need_table sp_need_table) (c_bottom_of : CalG P wd K mg base "bottom_of" s_bottom_of 1 P_bottom_of sp_bottom_of) (c_page_curve : CalG P wd K mg base "page_curve" s_page_curve 15 P_page_curve (sp_page_curve C_Style)) :
    ∃ t, JB (cxOf (L2.CX P wd) P wd K mg base N_narrowest "narrowest" (defScope s_narrowest) f cdv A outer s H E) (WD E) (defBody s_narrowest) t (T_narrowest C_Style) := by
  have hu : (A.deeper (envOfC "narrowest" (defScope s_narrowest) s.heap.objs.size f cdv)).units + 64 < cLine := hr.units
  exact ⟨_, (jb_cons (js_expr (je_callCG c_need_table hG (hr.mono (by decide)) rfl (takes_of rfl rfl rfl rfl) (ja_cons (je_var 0) ja_nil)))
  (jb_one (js_ret (je_callCG c_bottom_of hG (hr.mono (by decide)) rfl (takes_of rfl rfl rfl rfl) (ja_cons (je_callCG c_page_curve hG (hr.mono (by decide)) rfl (takes_of rfl rfl rfl rfl) (ja_cons (je_var 0) (ja_cons (je_var 1) ja_nil))) ja_nil)))))⟩
theorem sc_slopes : FnScope N_slopes P_slopes (defScope s_slopes) := ⟨rfl, rfl, rfl, by decide +kernel, rfl, by decide +kernel, by decide +kernel⟩
theorem d_slopes {C_Style : Addr} {P : Program} {wd : World} {K : PySem.W.Frag} {mg : Str → Option Value} {base : Heap} {f : Addr} {cdv : Value} {A : Around} {outer : List Env} {s : Shared} {H : Hp} {E : XK} (hG : (A.deeper (envOfC "slopes" (defScope s_slopes) s.heap.objs.size f cdv)).guards = some []) (hr : Room 15 (A.deeper (envOfC "slopes" (defScope s_slopes) s.heap.objs.size f cdv))) (c_need_table : CalG P wd K mg base "need_table" s_need_table 5 P_need_table sp_need_table) (c_page_curve : CalG P wd K mg base "page_curve" s_page_curve 15 P_page_curve (sp_page_curve C_Style)) :
    ∃ t, JB (cxOf (L2.CX P wd) P wd K mg base N_slopes "slopes" (defScope s_slopes) f cdv A outer s H E) (WD E) (defBody s_slopes) t (T_slopes C_Style) := by
  have hu : (A.deeper (envOfC "slopes" (defScope s_slopes) s.heap.objs.size f cdv)).units + 64 < cLine := hr.units
  exact ⟨_, (jb_cons (js_expr (je_callCG c_need_table hG (hr.mono (by decide)) rfl (takes_of rfl rfl rfl rfl) (ja_cons (je_var 0) ja_nil)))
  (jb_cons (js_asg (je_callCG c_page_curve hG (hr.mono (by decide)) rfl (takes_of rfl rfl rfl rfl) (ja_cons (je_var 0) (ja_cons (je_var 1) ja_nil))) (jg_tup rfl (jgs_cons (jg_name 2 sc_slopes.nd) (jgs_cons (jg_name 3 sc_slopes.nd) jgs_nil))))
  (jb_cons (js_set 4 sc_slopes.nd (je_lstO ja_nil))
  (jb_cons (js_for (passes_of rfl) rfl (ji_list (je_var 3)) (jg_tup rfl (jgs_cons (jg_name 5 sc_slopes.nd) (jgs_cons (jg_name 6 sc_slopes.nd) jgs_nil)))
  (jb_cons (js_expr (je_bm PySem.F.slot_list_append PySem.F.type_list_append mt_append mtd_append (je_var 4) (ja_cons (je_tup (ja_cons (je_op op_sub opd_sub (je_var 2) (je_var 5)) (ja_cons (je_var 2) (ja_cons (je_var 6) ja_nil)))) ja_nil)))
  (jb_one (js_aug 2 sc_slopes.nd (je_var 5) ip_sub ipd_subI))))
  (jb_one (js_ret (je_fz (je_rev (je_var 4)))))))))⟩
theorem sc_width_for : FnScope N_width_for P_width_for (defScope s_width_for) := ⟨rfl, rfl, rfl, by decide +kernel, rfl, by decide +kernel, by decide +kernel⟩
theorem d_width_for {C_InvalidNumber C_Style : Addr} {P : Program} {wd : World} {K : PySem.W.Frag} {mg : Str → Option Value} {base : Heap} {f : Addr} {cdv : Value} {A : Around} {outer : List Env} {s : Shared} {H : Hp} {E : XK} (hG : (A.deeper (envOfC "width_for" (defScope s_width_for) s.heap.objs.size f cdv)).guards = some []) (hr : Room 15 (A.deeper (envOfC "width_for" (defScope s_width_for) s.heap.objs.size f cdv))) (c_need_table : CalG P wd K mg base "need_table" s_need_table 5 P_need_table sp_need_table) (m_bool : mg "bool" = none) (m_isinstance : mg "isinstance" = none) (e_InvalidNumber : ExcF K mg "InvalidNumber" C_InvalidNumber) (c_page_curve : CalG P wd K mg base "page_curve" s_page_curve 15 P_page_curve (sp_page_curve C_Style)) (m_min : mg "min" = none) :
    ∃ t, JB (cxOf (L2.CX P wd) P wd K mg base N_width_for "width_for" (defScope s_width_for) f cdv A outer s H E) (WD E) (defBody s_width_for) t (T_width_for C_InvalidNumber C_Style) := by
  have hu : (A.deeper (envOfC "width_for" (defScope s_width_for) s.heap.objs.size f cdv)).units + 64 < cLine := hr.units
  exact ⟨_, (jb_cons (js_expr (je_callCG c_need_table hG (hr.mono (by decide)) rfl (takes_of rfl rfl rfl rfl) (ja_cons (je_var 0) ja_nil)))
  (jb_cons (js_if (JW.jt (jw_or (jt_val (je_callB call_isi cd_isi rfl m_isinstance (by decide +kernel) (ja_cons (je_var 2) (ja_cons (je_ty rfl m_bool (by decide +kernel)) ja_nil)))) (jw_or1 (jt_cmp op_lt opd_lt (je_var 2) je_int (nomark _)))))
  (jb_one (js_raiseC e_InvalidNumber rfl (takes_of rfl rfl rfl rfl) rfl))
  jb_nil)
  (jb_cons (js_asg (je_callCG c_page_curve hG (hr.mono (by decide)) rfl (takes_of rfl rfl rfl rfl) (ja_cons (je_var 0) (ja_cons (je_var 1) ja_nil))) (jg_tup rfl (jgs_cons (jg_name 3 sc_width_for.nd) (jgs_cons (jg_name 4 sc_width_for.nd) jgs_nil))))
  (jb_cons (js_set 5 sc_width_for.nd (je_var 2))
  (jb_cons (js_for (passes_of rfl) rfl (ji_list (je_var 4)) (jg_tup rfl (jgs_cons (jg_name 6 sc_width_for.nd) (jgs_cons (jg_name 7 sc_width_for.nd) jgs_nil)))
  (jb_cons (js_set 8 sc_width_for.nd (je_callB (call_min2 rfl) cd_min2 rfl m_min (by decide +kernel) (ja_cons (je_var 6) (ja_cons (je_op op_fdivW opd_div (je_var 5) (je_var 7)) ja_nil))))
  (jb_cons (js_aug 3 sc_width_for.nd (je_var 8) ip_sub ipd_subI)
  (jb_cons (js_aug 5 sc_width_for.nd (je_op op_mulA opd_mul (je_var 8) (je_var 7)) ip_sub ipd_subI)
  (jb_one (js_if (jt_cmp op_lt opd_lt (je_var 8) (je_var 6) (nomark _))
  (jb_one js_break)
  jb_nil))))))
  (jb_one (js_ret (je_var 3))))))))⟩
theorem sc_are_kinds : FnScope N_are_kinds P_are_kinds (defScope s_are_kinds) := ⟨rfl, rfl, rfl, by decide +kernel, rfl, by decide +kernel, by decide +kernel⟩
theorem d_are_kinds {C_Kind : Addr} {P : Program} {wd : World} {K : PySem.W.Frag} {mg : Str → Option Value} {base : Heap} {f : Addr} {cdv : Value} {A : Around} {outer : List Env} {s : Shared} {H : Hp} {E : XK} (hG : (A.deeper (envOfC "are_kinds" (defScope s_are_kinds) s.heap.objs.size f cdv)).guards = some []) (hr : Room 0 (A.deeper (envOfC "are_kinds" (defScope s_are_kinds) s.heap.objs.size f cdv))) (m_list : mg "list" = none) (m_isinstance : mg "isinstance" = none) (m_len : mg "len" = none) (g_MOST_KINDS : ∃ t, mg "MOST_KINDS" = some (.int 12 t)) (m_str : mg "str" = none) (h_Kind : mg "Kind" = some (.ref C_Kind)) (cv_NAMES : ∀ q ∈ ((conNAMES C_Kind) : List (Addr × D)), CValF K q.1 "NAMES" q.2) (m_all : mg "all" = none) :
    ∃ t, JB (cxOf (L2.CX P wd) P wd K mg base N_are_kinds "are_kinds" (defScope s_are_kinds) f cdv A outer s H E) (WD E) (defBody s_are_kinds) t (T_are_kinds C_Kind) := by
  have hu : (A.deeper (envOfC "are_kinds" (defScope s_are_kinds) s.heap.objs.size f cdv)).units + 64 < cLine := hr.units
  exact ⟨_, (jb_cons (js_if (JW.jt (jw_or (jt_not (jt_val (je_callB call_isi cd_isi rfl m_isinstance (by decide +kernel) (ja_cons (je_var 0) (ja_cons (je_ty rfl m_list (by decide +kernel)) ja_nil))))) (jw_or1 (jt_not (jt_chain op_le op_le opd_le opd_le je_int (je_callB call_lenA cd_len rfl m_len (by decide +kernel) (ja_cons (je_var 0) ja_nil)) (je_gint rfl g_MOST_KINDS))))))
  (jb_one (js_ret je_bl))
  jb_nil)
  (jb_one (js_ret (je_callB (cr_all rfl) cd_all rfl m_all (by decide +kernel) (ja_cons (je_lc (own := ([("name", 1)] : List (Str × Nat))) finF finF_ok rfl sc_are_kinds.nd (ji_list (je_var 0)) (blkOk_by (N := N_are_kinds) (sc := defScope s_are_kinds) (by decide +kernel)) (fun _ _ _ _ _ => (jg_name 1 sc_are_kinds.nd)) (by exact (gk_name (vs := [1]) (i := 1))) (fun _ _ _ _ _ => jts_nil) (fun _ _ _ _ _ => (je_and (je_callB call_isi cd_isi rfl m_isinstance (by decide +kernel) (ja_cons (je_var 1) (ja_cons (je_ty rfl m_str (by decide +kernel)) ja_nil))) (je_one (je_cmp op_in_seq opd_in (je_var 1) (je_cval (tab := (conNAMES C_Kind)) cv_NAMES (je_gref rfl h_Kind)) (by rfl)))))) ja_nil)))))⟩
theorem sc_Style___init__ : FnScope N_Style___init__ P_Style___init__ (defScope s_Style___init__) := ⟨rfl, rfl, rfl, by decide +kernel, rfl, by decide +kernel, by decide +kernel⟩
theorem d_Style___init__ {C_InvalidStyle C_Style : Addr} {P : Program} {wd : World} {K : PySem.W.Frag} {mg : Str → Option Value} {base : Heap} {f : Addr} {cdv : Value} {A : Around} {outer : List Env} {s : Shared} {H : Hp} {E : XK} (hG : (A.deeper (envOfC "Style.__init__" (defScope s_Style___init__) s.heap.objs.size f cdv)).guards = some []) (hr : Room 2 (A.deeper (envOfC "Style.__init__" (defScope s_Style___init__) s.heap.objs.size f cdv))) (m_len : mg "len" = none) (m_list : mg "list" = none) (g_LEFT : ∃ t, mg "LEFT" = some (.str "left" t)) (c_are_kinds : CalG P wd K mg base "are_kinds" s_are_kinds 1 P_are_kinds sp_are_kinds) (c_is_cell : CalG P wd K mg base "is_cell" s_is_cell 2 P_is_cell sp_is_cell) (e_InvalidStyle : ExcF K mg "InvalidStyle" C_InvalidStyle) (cl_Style : Cls K C_Style) (na_Style_held_kinds : NoAttr K C_Style "held_kinds") (na_Style_held_gap : NoAttr K C_Style "held_gap") (na_Style_held_least : NoAttr K C_Style "held_least") :
    ∃ t, JB (cxOf (L2.CX P wd) P wd K mg base N_Style___init__ "Style.__init__" (defScope s_Style___init__) f cdv A outer s H E) (WD E) (defBody s_Style___init__) t (T_Style___init__ C_InvalidStyle C_Style) := by
  have hu : (A.deeper (envOfC "Style.__init__" (defScope s_Style___init__) s.heap.objs.size f cdv)).units + 64 < cLine := hr.units
  exact ⟨_, (jb_cons (js_set 4 sc_Style___init__.nd (je_if (jt_cmp op_gt opd_gt (je_callB call_lenA cd_len rfl m_len (by decide +kernel) (ja_cons (je_var 3) ja_nil)) je_int (nomark _)) (je_callTy call_list_of cd_list rfl m_list (by decide +kernel) (ja_cons (je_var 3) ja_nil)) (je_lst (ja_cons (je_gstr rfl g_LEFT) ja_nil))))
  (jb_cons (js_if (JW.jt (jw_or (jt_not (jt_val (je_callCG c_are_kinds hG (hr.mono (by decide)) rfl (takes_of rfl rfl rfl rfl) (ja_cons (je_var 4) ja_nil)))) (jw_or (jt_not (jt_val (je_callCG c_is_cell hG (hr.mono (by decide)) rfl (takes_of rfl rfl rfl rfl) (ja_cons (je_var 1) ja_nil)))) (jw_or1 (jt_not (jt_val (je_callCG c_is_cell hG (hr.mono (by decide)) rfl (takes_of rfl rfl rfl rfl) (ja_cons (je_var 2) ja_nil))))))))
  (jb_one (js_raiseC e_InvalidStyle rfl (takes_of rfl rfl rfl rfl) rfl))
  jb_nil)
  (jb_cons (js_fld cl_Style na_Style_held_kinds (je_var 0) (je_var 4))
  (jb_cons (js_fld cl_Style na_Style_held_gap (je_var 0) (je_var 1))
  (jb_one (js_fld cl_Style na_Style_held_least (je_var 0) (je_var 2)))))))⟩
theorem sc_Style_of : FnScope N_Style_of P_Style_of (defScope s_Style_of) := ⟨rfl, rfl, rfl, by decide +kernel, rfl, by decide +kernel, by decide +kernel⟩
theorem d_Style_of {C_InvalidStyle C_Style : Addr} {P : Program} {wd : World} {K : PySem.W.Frag} {mg : Str → Option Value} {base : Heap} {f : Addr} {cdv : Value} {A : Around} {outer : List Env} {s : Shared} {H : Hp} {E : XK} (hG : (A.deeper (envOfC "Style.of" (defScope s_Style_of) s.heap.objs.size f cdv)).guards = some []) (hr : Room 4 (A.deeper (envOfC "Style.of" (defScope s_Style_of) s.heap.objs.size f cdv))) (c_are_kinds : CalG P wd K mg base "are_kinds" s_are_kinds 1 P_are_kinds sp_are_kinds) (e_InvalidStyle : ExcF K mg "InvalidStyle" C_InvalidStyle) (mk_Style___init___s1_gap_least : CtorK P wd K mg base C_Style 3 (["gap", "least"] : List Str) (pkS true 1 [0, 1, 2] [] (sp_Style___init__ C_Style))) :
    ∃ t, JB (cxOf (L2.CX P wd) P wd K mg base N_Style_of "Style.of" (defScope s_Style_of) f cdv A outer s H E) (WD E) (defBody s_Style_of) t (T_Style_of C_InvalidStyle C_Style) := by
  have hu : (A.deeper (envOfC "Style.of" (defScope s_Style_of) s.heap.objs.size f cdv)).units + 64 < cLine := hr.units
  exact ⟨_, (jb_cons (js_if (jt_not (jt_val (je_callCG c_are_kinds hG (hr.mono (by decide)) rfl (takes_of rfl rfl rfl rfl) (ja_cons (je_var 1) ja_nil))))
  (jb_one (js_raiseC e_InvalidStyle rfl (takes_of rfl rfl rfl rfl) rfl))
  jb_nil)
  (jb_one (js_ret (je_makeV 0 mk_Style___init___s1_gap_least hG (hr.mono (by decide)) (takes_of rfl rfl rfl rfl) (jc_lone (ks := (["gap", "least"] : List Str)) (je_var 1) (jk_cons (je_var 2) (jk_cons (je_var 3) jk_nil)))))))⟩
theorem sc_Style_gap : FnScope N_Style_gap P_Style_gap (defScope s_Style_gap) := ⟨rfl, rfl, rfl, by decide +kernel, rfl, by decide +kernel, by decide +kernel⟩
theorem d_Style_gap {C_Style : Addr} {P : Program} {wd : World} {K : PySem.W.Frag} {mg : Str → Option Value} {base : Heap} {f : Addr} {cdv : Value} {A : Around} {outer : List Env} {s : Shared} {H : Hp} {E : XK} (hG : (A.deeper (envOfC "Style.gap" (defScope s_Style_gap) s.heap.objs.size f cdv)).guards = some []) (hr : Room 0 (A.deeper (envOfC "Style.gap" (defScope s_Style_gap) s.heap.objs.size f cdv))) (cl_Style : Cls K C_Style) (na_Style_held_gap : NoAttr K C_Style "held_gap") :
    ∃ t, JB (cxOf (L2.CX P wd) P wd K mg base N_Style_gap "Style.gap" (defScope s_Style_gap) f cdv A outer s H E) (WD E) (defBody s_Style_gap) t (T_Style_gap C_Style) := by
  have hu : (A.deeper (envOfC "Style.gap" (defScope s_Style_gap) s.heap.objs.size f cdv)).units + 64 < cLine := hr.units
  exact ⟨_, (jb_one (js_ret (je_fld cl_Style na_Style_held_gap (je_var 0))))⟩
theorem sc_Style_least : FnScope N_Style_least P_Style_least (defScope s_Style_least) := ⟨rfl, rfl, rfl, by decide +kernel, rfl, by decide +kernel, by decide +kernel⟩
theorem d_Style_least {C_Style : Addr} {P : Program} {wd : World} {K : PySem.W.Frag} {mg : Str → Option Value} {base : Heap} {f : Addr} {cdv : Value} {A : Around} {outer : List Env} {s : Shared} {H : Hp} {E : XK} (hG : (A.deeper (envOfC "Style.least" (defScope s_Style_least) s.heap.objs.size f cdv)).guards = some []) (hr : Room 0 (A.deeper (envOfC "Style.least" (defScope s_Style_least) s.heap.objs.size f cdv))) (cl_Style : Cls K C_Style) (na_Style_held_least : NoAttr K C_Style "held_least") :
    ∃ t, JB (cxOf (L2.CX P wd) P wd K mg base N_Style_least "Style.least" (defScope s_Style_least) f cdv A outer s H E) (WD E) (defBody s_Style_least) t (T_Style_least C_Style) := by
  have hu : (A.deeper (envOfC "Style.least" (defScope s_Style_least) s.heap.objs.size f cdv)).units + 64 < cLine := hr.units
  exact ⟨_, (jb_one (js_ret (je_fld cl_Style na_Style_held_least (je_var 0))))⟩
theorem sc__law_source : FnScope N__law_source P__law_source (defScope s__law_source) := ⟨rfl, rfl, rfl, by decide +kernel, rfl, by decide +kernel, by decide +kernel⟩
theorem d__law_source {P : Program} {wd : World} {K : PySem.W.Frag} {mg : Str → Option Value} {base : Heap} {f : Addr} {cdv : Value} {A : Around} {outer : List Env} {s : Shared} {H : Hp} {E : XK} (hG : (A.deeper (envOfC "_law_source" (defScope s__law_source) s.heap.objs.size f cdv)).guards = some []) (hr : Room 0 (A.deeper (envOfC "_law_source" (defScope s__law_source) s.heap.objs.size f cdv))) (m_abs : mg "abs" = none) :
    ∃ t, JB (cxOf (L2.CX P wd) P wd K mg base N__law_source "_law_source" (defScope s__law_source) f cdv A outer s H E) (WD E) (defBody s__law_source) t T__law_source := by
  have hu : (A.deeper (envOfC "_law_source" (defScope s__law_source) s.heap.objs.size f cdv)).units + 64 < cLine := hr.units
  exact ⟨_, (jb_cons (js_set 1 sc__law_source.nd (je_op op_powW opd_pow je_int je_int))
  (jb_cons (js_for (passes_of rfl) rfl (ji_list (je_slice sl_list sld_l (je_var 0) jo_none (jo_some je_int))) (jg_name 2 sc__law_source.nd)
  (jb_one (js_set 1 sc__law_source.nd (je_op op_mod opd_mod (je_op op_addA opd_add (je_op op_mulA opd_mul (je_var 1) je_int) (je_var 2)) je_int))))
  (jb_one (js_ret (je_lstO (ja_cons (je_lc (own := ([("_law_cell", 2)] : List (Str × Nat))) finO finO_ok rfl sc__law_source.nd (ji_list (je_slice sl_list sld_l (je_var 0) jo_none (jo_some je_int))) (blkOk_by (N := N__law_source) (sc := defScope s__law_source) (by decide +kernel)) (fun _ _ _ _ _ => (jg_name 2 sc__law_source.nd)) (by exact (gk_name (vs := [2]) (i := 2))) (fun _ _ _ _ _ => (jts_one (jt_cmp op_ge opd_ge (je_callB call_abs cd_abs rfl m_abs (by decide +kernel) (ja_cons (je_var 2) ja_nil)) (je_op op_powW opd_pow je_int je_int) (nomark _)))) (fun _ _ _ _ _ => (je_callB call_abs cd_abs rfl m_abs (by decide +kernel) (ja_cons (je_var 2) ja_nil)))) (ja_cons (je_var 1) (ja_cons je_int ja_nil))))))))⟩
theorem sc__law_pick : FnScope N__law_pick P__law_pick (defScope s__law_pick) := ⟨rfl, rfl, rfl, by decide +kernel, rfl, by decide +kernel, by decide +kernel⟩
theorem d__law_pick {P : Program} {wd : World} {K : PySem.W.Frag} {mg : Str → Option Value} {base : Heap} {f : Addr} {cdv : Value} {A : Around} {outer : List Env} {s : Shared} {H : Hp} {E : XK} (hG : (A.deeper (envOfC "_law_pick" (defScope s__law_pick) s.heap.objs.size f cdv)).guards = some []) (hr : Room 0 (A.deeper (envOfC "_law_pick" (defScope s__law_pick) s.heap.objs.size f cdv)))  :
    ∃ t, JB (cxOf (L2.CX P wd) P wd K mg base N__law_pick "_law_pick" (defScope s__law_pick) f cdv A outer s H E) (WD E) (defBody s__law_pick) t T__law_pick := by
  have hu : (A.deeper (envOfC "_law_pick" (defScope s__law_pick) s.heap.objs.size f cdv)).units + 64 < cLine := hr.units
  exact ⟨_, (jb_cons (js_while (passes_of rfl) (JW.jt (jw_and (jt_cmp (op_neD hu) opd_ne (je_ix ix_seq opd_ix (je_var 0) je_int) (je_lst ja_nil) (nomark _)) (jw_and1 (jt_cmp op_lt opd_lt (je_ix ix_seq opd_ix (je_ix ix_seq opd_ix (je_var 0) je_int) je_int) je_int (nomark _)))))
  (jb_one (js_expr (je_bm PySem.F.slot_list_pop PySem.F.type_list_pop mt_popAt mtd_popAt (je_ix ix_seq opd_ix (je_var 0) je_int) (ja_cons je_int ja_nil)))))
  (jb_cons (js_if (jt_cmp (op_neD hu) opd_ne (je_ix ix_seq opd_ix (je_var 0) je_int) (je_lst ja_nil) (nomark _))
  (jb_cons (js_set 2 sc__law_pick.nd (je_op op_mod opd_mod (je_ix ix_seq opd_ix (je_ix ix_seq opd_ix (je_var 0) je_int) je_int) (je_var 1)))
  (jb_cons (js_asg (je_op op_fdivW opd_div (je_ix ix_seq opd_ix (je_ix ix_seq opd_ix (je_var 0) je_int) je_int) (je_var 1)) (jg_sub (je_ix ix_seq opd_ix (je_var 0) je_int) je_int set_list setd_o))
  (jb_one (js_ret (je_var 2)))))
  jb_nil)
  (jb_cons (js_asg (je_op op_addA opd_add (je_ix ix_seq opd_ix (je_var 0) je_int) je_int) (jg_sub (je_var 0) je_int set_list setd_o))
  (jb_cons (js_set 3 sc__law_pick.nd (je_op op_addA opd_add (je_op op_mulA opd_mul (je_ix ix_seq opd_ix (je_var 0) je_int) (je_ix ix_seq opd_ix (je_var 0) je_int)) (je_op op_mulA opd_mul (je_op op_mulA opd_mul je_int (je_ix ix_seq opd_ix (je_var 0) je_int)) (je_ix ix_seq opd_ix (je_var 0) je_int))))
  (jb_cons (js_asg (je_op op_mod opd_mod (je_op op_addA opd_add (je_var 3) (je_op op_mulA opd_mul je_int (je_ix ix_seq opd_ix (je_var 0) je_int))) je_int) (jg_sub (je_var 0) je_int set_list setd_o))
  (jb_one (js_ret (je_op op_mod opd_mod (je_op op_fdivW opd_div (je_ix ix_seq opd_ix (je_var 0) je_int) (je_op op_powW opd_pow je_int je_int)) (je_var 1)))))))))⟩
theorem sc__law_look : FnScope N__law_look P__law_look (defScope s__law_look) := ⟨rfl, rfl, rfl, by decide +kernel, rfl, by decide +kernel, by decide +kernel⟩
theorem d__law_look {P : Program} {wd : World} {K : PySem.W.Frag} {mg : Str → Option Value} {base : Heap} {f : Addr} {cdv : Value} {A : Around} {outer : List Env} {s : Shared} {H : Hp} {E : XK} (hG : (A.deeper (envOfC "_law_look" (defScope s__law_look) s.heap.objs.size f cdv)).guards = some []) (hr : Room 1 (A.deeper (envOfC "_law_look" (defScope s__law_look) s.heap.objs.size f cdv))) (c__law_pick : CalG P wd K mg base "_law_pick" s__law_pick 1 P__law_pick sp__law_pick) :
    ∃ t, JB (cxOf (L2.CX P wd) P wd K mg base N__law_look "_law_look" (defScope s__law_look) f cdv A outer s H E) (WD E) (defBody s__law_look) t T__law_look := by
  have hu : (A.deeper (envOfC "_law_look" (defScope s__law_look) s.heap.objs.size f cdv)).units + 64 < cLine := hr.units
  exact ⟨_, (jb_one (js_ret (je_tup (ja_cons (je_callCG c__law_pick hG (hr.mono (by decide)) rfl (takes_of rfl rfl rfl rfl) (ja_cons (je_var 0) (ja_cons je_int ja_nil))) (ja_cons (je_ix ix_seq opd_ix (je_lst (ja_cons je_int (ja_cons je_int (ja_cons (je_callCG c__law_pick hG (hr.mono (by decide)) rfl (takes_of rfl rfl rfl rfl) (ja_cons (je_var 0) (ja_cons (je_op op_addA opd_add (je_var 1) je_int) ja_nil))) ja_nil)))) (je_callCG c__law_pick hG (hr.mono (by decide)) rfl (takes_of rfl rfl rfl rfl) (ja_cons (je_var 0) (ja_cons je_int ja_nil)))) ja_nil)))))⟩
theorem sc__law_named : FnScope N__law_named P__law_named (defScope s__law_named) := ⟨rfl, rfl, rfl, by decide +kernel, rfl, by decide +kernel, by decide +kernel⟩
theorem d__law_named {C_Style : Addr} {P : Program} {wd : World} {K : PySem.W.Frag} {mg : Str → Option Value} {base : Heap} {f : Addr} {cdv : Value} {A : Around} {outer : List Env} {s : Shared} {H : Hp} {E : XK} (hG : (A.deeper (envOfC "_law_named" (defScope s__law_named) s.heap.objs.size f cdv)).guards = some []) (hr : Room 5 (A.deeper (envOfC "_law_named" (defScope s__law_named) s.heap.objs.size f cdv))) (c__law_pick : CalG P wd K mg base "_law_pick" s__law_pick 1 P__law_pick sp__law_pick) (h_Style : mg "Style" = some (.ref C_Style)) (cm_Style_Style_of_4 : CMetK P wd K mg base C_Style "of" 5 ([] : List Str) (pkP 4 [0, 1, 2, 3] [] (sp_Style_of C_Style))) :
    ∃ t, JB (cxOf (L2.CX P wd) P wd K mg base N__law_named "_law_named" (defScope s__law_named) f cdv A outer s H E) (WD E) (defBody s__law_named) t (T__law_named C_Style) := by
  have hu : (A.deeper (envOfC "_law_named" (defScope s__law_named) s.heap.objs.size f cdv)).units + 64 < cLine := hr.units
  exact ⟨_, (jb_cons (js_set 2 sc__law_named.nd (je_ix ix_seq opd_ix (je_lst (ja_cons (je_lst (ja_cons je_str ja_nil)) (ja_cons (je_lst (ja_cons je_str (ja_cons je_str ja_nil))) (ja_cons (je_lst (ja_cons je_str (ja_cons je_str (ja_cons je_str ja_nil)))) ja_nil)))) (je_callCG c__law_pick hG (hr.mono (by decide)) rfl (takes_of rfl rfl rfl rfl) (ja_cons (je_var 0) (ja_cons je_int ja_nil)))))
  (jb_one (js_ret (je_cmethA cm_Style_Style_of_4 hG (hr.mono (by decide)) (takes_of rfl rfl rfl rfl) (je_gref rfl h_Style) (jc_cons (ks := ([] : List Str)) (ja_cons (je_var 2) (ja_cons (je_ix ix_seq opd_ix (je_var 1) je_int) (ja_cons (je_ix ix_seq opd_ix (je_var 1) je_int) ja_nil))) jk_nil)))))⟩
theorem sc__law_grid : FnScope N__law_grid P__law_grid (defScope s__law_grid) := ⟨rfl, rfl, rfl, by decide +kernel, rfl, by decide +kernel, by decide +kernel⟩
theorem d__law_grid {P : Program} {wd : World} {K : PySem.W.Frag} {mg : Str → Option Value} {base : Heap} {f : Addr} {cdv : Value} {A : Around} {outer : List Env} {s : Shared} {H : Hp} {E : XK} (hG : (A.deeper (envOfC "_law_grid" (defScope s__law_grid) s.heap.objs.size f cdv)).guards = some []) (hr : Room 1 (A.deeper (envOfC "_law_grid" (defScope s__law_grid) s.heap.objs.size f cdv))) (c__law_pick : CalG P wd K mg base "_law_pick" s__law_pick 1 P__law_pick sp__law_pick) (m_range : mg "range" = none) (m_max : mg "max" = none) :
    ∃ t, JB (cxOf (L2.CX P wd) P wd K mg base N__law_grid "_law_grid" (defScope s__law_grid) f cdv A outer s H E) (WD E) (defBody s__law_grid) t T__law_grid := by
  have hu : (A.deeper (envOfC "_law_grid" (defScope s__law_grid) s.heap.objs.size f cdv)).units + 64 < cLine := hr.units
  exact ⟨_, (jb_cons (js_set 4 sc__law_grid.nd (je_lstO ja_nil))
  (jb_cons (js_for (passes_of rfl) rfl (ji_range1 rfl m_range (ja_cons (je_op op_addA opd_add je_int (je_callCG c__law_pick hG (hr.mono (by decide)) rfl (takes_of rfl rfl rfl rfl) (ja_cons (je_var 0) (ja_cons (je_var 1) ja_nil)))) ja_nil)) (jg_name 5 sc__law_grid.nd)
  (jb_cons (js_set 6 sc__law_grid.nd (je_ix ix_seq opd_ix (je_lst (ja_cons (je_op op_addA opd_add je_int (je_callCG c__law_pick hG (hr.mono (by decide)) rfl (takes_of rfl rfl rfl rfl) (ja_cons (je_var 0) (ja_cons (je_var 2) ja_nil)))) (ja_cons (je_var 2) (ja_cons (je_callB (call_max2 rfl) cd_max2 rfl m_max (by decide +kernel) (ja_cons je_int (ja_cons (je_op op_sub opd_sub (je_var 2) je_int) ja_nil))) ja_nil)))) (je_callCG c__law_pick hG (hr.mono (by decide)) rfl (takes_of rfl rfl rfl rfl) (ja_cons (je_var 0) (ja_cons je_int ja_nil)))))
  (jb_one (js_expr (je_bm PySem.F.slot_list_append PySem.F.type_list_append mt_append mtd_append (je_var 4) (ja_cons (je_lc (own := ([("_law_turn", 7)] : List (Str × Nat))) finF finF_ok rfl sc__law_grid.nd (ji_range1 rfl m_range (ja_cons (je_var 6) ja_nil)) (blkOk_by (N := N__law_grid) (sc := defScope s__law_grid) (by decide +kernel)) (fun _ _ _ _ _ => (jg_name 7 sc__law_grid.nd)) (by exact (gk_name (vs := [7]) (i := 7))) (fun _ _ _ _ _ => jts_nil) (fun _ _ _ _ _ => (je_callCG c__law_pick hG (hr.mono (by decide)) rfl takes0 (ja_cons (je_var 0) (ja_cons (je_var 3) ja_nil))))) ja_nil))))))
  (jb_one (js_ret (je_fz (je_var 4))))))⟩
theorem sc__law_span : FnScope N__law_span P__law_span (defScope s__law_span) := ⟨rfl, rfl, rfl, by decide +kernel, rfl, by decide +kernel, by decide +kernel⟩
theorem d__law_span {P : Program} {wd : World} {K : PySem.W.Frag} {mg : Str → Option Value} {base : Heap} {f : Addr} {cdv : Value} {A : Around} {outer : List Env} {s : Shared} {H : Hp} {E : XK} (hG : (A.deeper (envOfC "_law_span" (defScope s__law_span) s.heap.objs.size f cdv)).guards = some []) (hr : Room 0 (A.deeper (envOfC "_law_span" (defScope s__law_span) s.heap.objs.size f cdv))) (m_len : mg "len" = none) (m_max : mg "max" = none) :
    ∃ t, JB (cxOf (L2.CX P wd) P wd K mg base N__law_span "_law_span" (defScope s__law_span) f cdv A outer s H E) (WD E) (defBody s__law_span) t T__law_span := by
  have hu : (A.deeper (envOfC "_law_span" (defScope s__law_span) s.heap.objs.size f cdv)).units + 64 < cLine := hr.units
  exact ⟨_, (jb_cons (js_par 4 5 rfl sc__law_span.nd (ja_cons (je_var 2) (ja_cons (je_var 2) ja_nil)))
  (jb_cons (js_while (passes_of rfl) (JW.jt (jw_and (jt_cmp op_gt opd_gt (je_var 4) je_int (nomark _)) (jw_and1 (jt_cmp op_gt opd_gt (je_callB call_lenA cd_len rfl m_len (by decide +kernel) (ja_cons (je_ix ix_seq opd_ix (je_var 0) (je_op op_sub opd_sub (je_var 4) je_int)) ja_nil)) (je_op op_addA opd_add (je_var 3) je_int) (nomark _)))))
  (jb_one (js_set 4 sc__law_span.nd (je_op op_sub opd_sub (je_var 4) je_int))))
  (jb_cons (js_while (passes_of rfl) (JW.jt (jw_and (jt_cmp op_lt opd_lt (je_op op_addA opd_add (je_var 5) je_int) (je_callB call_lenA cd_len rfl m_len (by decide +kernel) (ja_cons (je_var 0) ja_nil)) (nomark _)) (jw_and1 (jt_cmp op_gt opd_gt (je_callB call_lenA cd_len rfl m_len (by decide +kernel) (ja_cons (je_ix ix_seq opd_ix (je_var 0) (je_op op_addA opd_add (je_var 5) je_int)) ja_nil)) (je_op op_addA opd_add (je_var 3) je_int) (nomark _)))))
  (jb_one (js_set 5 sc__law_span.nd (je_op op_addA opd_add (je_var 5) je_int))))
  (jb_one (js_ret (je_op op_addA opd_add (je_callB (cr_max rfl) cd_max rfl m_max (by decide +kernel) (ja_cons (je_op op_addA opd_add (je_lst (ja_cons (je_ix ix_seq opd_ix (je_var 1) je_int) ja_nil)) (je_lc (own := ([("_law_cells", 6)] : List (Str × Nat))) finF finF_ok rfl sc__law_span.nd (ji_list (je_slice sl_list sld_l (je_var 0) (jo_some (je_var 4)) (jo_some (je_op op_addA opd_add (je_var 5) je_int)))) (blkOk_by (N := N__law_span) (sc := defScope s__law_span) (by decide +kernel)) (fun _ _ _ _ _ => (jg_name 6 sc__law_span.nd)) (by exact (gk_name (vs := [6]) (i := 6))) (fun _ _ _ _ _ => jts_nil) (fun _ _ _ _ _ => (je_ix ix_seq opd_ix (je_var 6) (je_var 3))))) ja_nil)) (je_ix ix_seq opd_ix (je_var 1) je_int)))))))⟩
theorem sc__law_ends : FnScope N__law_ends P__law_ends (defScope s__law_ends) := ⟨rfl, rfl, rfl, by decide +kernel, rfl, by decide +kernel, by decide +kernel⟩
theorem d__law_ends {P : Program} {wd : World} {K : PySem.W.Frag} {mg : Str → Option Value} {base : Heap} {f : Addr} {cdv : Value} {A : Around} {outer : List Env} {s : Shared} {H : Hp} {E : XK} (hG : (A.deeper (envOfC "_law_ends" (defScope s__law_ends) s.heap.objs.size f cdv)).guards = some []) (hr : Room 1 (A.deeper (envOfC "_law_ends" (defScope s__law_ends) s.heap.objs.size f cdv))) (m_enumerate : mg "enumerate" = none) (m_len : mg "len" = none) (m_range : mg "range" = none) (c__law_span : CalG P wd K mg base "_law_span" s__law_span 1 P__law_span sp__law_span) (m_sum : mg "sum" = none) :
    ∃ t, JB (cxOf (L2.CX P wd) P wd K mg base N__law_ends "_law_ends" (defScope s__law_ends) f cdv A outer s H E) (WD E) (defBody s__law_ends) t T__law_ends := by
  have hu : (A.deeper (envOfC "_law_ends" (defScope s__law_ends) s.heap.objs.size f cdv)).units + 64 < cLine := hr.units
  exact ⟨_, (jb_cons (js_set 2 sc__law_ends.nd (je_lstO ja_nil))
  (jb_cons (js_for (passes_of rfl) rfl (ji_enum rfl m_enumerate (ja_cons (je_var 0) ja_nil)) (jg_tup rfl (jgs_cons (jg_name 3 sc__law_ends.nd) (jgs_cons (jg_name 4 sc__law_ends.nd) jgs_nil)))
  (jb_one (js_expr (je_bm PySem.F.slot_list_append PySem.F.type_list_append mt_append mtd_append (je_var 2) (ja_cons (je_op op_addA opd_add (je_callB (cr_sum rfl) cd_sum rfl m_sum (by decide +kernel) (ja_cons (je_lc (own := ([("_law_spot", 5)] : List (Str × Nat))) finF finF_ok rfl sc__law_ends.nd (ji_range1 rfl m_range (ja_cons (je_op op_sub opd_sub (je_callB call_lenA cd_len rfl m_len (by decide +kernel) (ja_cons (je_var 4) ja_nil)) je_int) ja_nil)) (blkOk_by (N := N__law_ends) (sc := defScope s__law_ends) (by decide +kernel)) (fun _ _ _ _ _ => (jg_name 5 sc__law_ends.nd)) (by exact (gk_name (vs := [5]) (i := 5))) (fun _ _ _ _ _ => jts_nil) (fun _ _ _ _ _ => (je_callCG c__law_span hG (hr.mono (by decide)) rfl takes0 (ja_cons (je_var 0) (ja_cons (je_var 1) (ja_cons (je_var 3) (ja_cons (je_var 5) ja_nil))))))) ja_nil)) (je_ix ix_seq opd_ix (je_var 4) (je_neg je_int))) ja_nil)))))
  (jb_one (js_ret (je_fz (je_var 2))))))⟩
theorem sc__law_grown : FnScope N__law_grown P__law_grown (defScope s__law_grown) := ⟨rfl, rfl, rfl, by decide +kernel, rfl, by decide +kernel, by decide +kernel⟩
theorem d__law_grown {P : Program} {wd : World} {K : PySem.W.Frag} {mg : Str → Option Value} {base : Heap} {f : Addr} {cdv : Value} {A : Around} {outer : List Env} {s : Shared} {H : Hp} {E : XK} (hG : (A.deeper (envOfC "_law_grown" (defScope s__law_grown) s.heap.objs.size f cdv)).guards = some []) (hr : Room 0 (A.deeper (envOfC "_law_grown" (defScope s__law_grown) s.heap.objs.size f cdv))) (m_range : mg "range" = none) :
    ∃ t, JB (cxOf (L2.CX P wd) P wd K mg base N__law_grown "_law_grown" (defScope s__law_grown) f cdv A outer s H E) (WD E) (defBody s__law_grown) t T__law_grown := by
  have hu : (A.deeper (envOfC "_law_grown" (defScope s__law_grown) s.heap.objs.size f cdv)).units + 64 < cLine := hr.units
  exact ⟨_, (jb_cons (js_asg (je_var 2) (jg_tup rfl (jgs_cons (jg_name 3 sc__law_grown.nd) (jgs_cons (jg_name 4 sc__law_grown.nd) (jgs_cons (jg_name 5 sc__law_grown.nd) jgs_nil)))))
  (jb_cons (js_set 6 sc__law_grown.nd (je_lstO ja_nil))
  (jb_cons (js_for (passes_of rfl) rfl (ji_list (je_var 0)) (jg_name 7 sc__law_grown.nd)
  (jb_one (js_for (passes_of rfl) rfl (ji_range1 rfl m_range (ja_cons (je_var 3) ja_nil)) (jg_name 8 sc__law_grown.nd)
  (jb_one (js_expr (je_bm PySem.F.slot_list_append PySem.F.type_list_append mt_append mtd_append (je_var 6) (ja_cons (je_op op_addA opd_add (je_op op_mulA opd_mul (je_lst (ja_cons je_int ja_nil)) (je_var 5)) (je_lc (own := ([("_law_cell", 9)] : List (Str × Nat))) finF finF_ok rfl sc__law_grown.nd (ji_list (je_var 7)) (blkOk_by (N := N__law_grown) (sc := defScope s__law_grown) (by decide +kernel)) (fun _ _ _ _ _ => (jg_name 9 sc__law_grown.nd)) (by exact (gk_name (vs := [9]) (i := 9))) (fun _ _ _ _ _ => jts_nil) (fun _ _ _ _ _ => (je_op op_mulA opd_mul (je_var 9) (je_var 4))))) ja_nil)))))))
  (jb_one (js_ret (je_tup (ja_cons (je_fz (je_var 6)) (ja_cons (je_tup (ja_cons (je_op op_mulA opd_mul (je_ix ix_seq opd_ix (je_var 1) je_int) (je_var 4)) (ja_cons (je_op op_mulA opd_mul (je_ix ix_seq opd_ix (je_var 1) je_int) (je_var 4)) ja_nil))) ja_nil))))))))⟩
theorem sc__law_sizes : FnScope N__law_sizes P__law_sizes (defScope s__law_sizes) := ⟨rfl, rfl, rfl, by decide +kernel, rfl, by decide +kernel, by decide +kernel⟩
theorem d__law_sizes {P : Program} {wd : World} {K : PySem.W.Frag} {mg : Str → Option Value} {base : Heap} {f : Addr} {cdv : Value} {A : Around} {outer : List Env} {s : Shared} {H : Hp} {E : XK} (hG : (A.deeper (envOfC "_law_sizes" (defScope s__law_sizes) s.heap.objs.size f cdv)).guards = some []) (hr : Room 1 (A.deeper (envOfC "_law_sizes" (defScope s__law_sizes) s.heap.objs.size f cdv))) (m_len : mg "len" = none) (m_max : mg "max" = none) (c__law_pick : CalG P wd K mg base "_law_pick" s__law_pick 1 P__law_pick sp__law_pick) (m_sum : mg "sum" = none) (m_min : mg "min" = none) :
    ∃ t, JB (cxOf (L2.CX P wd) P wd K mg base N__law_sizes "_law_sizes" (defScope s__law_sizes) f cdv A outer s H E) (WD E) (defBody s__law_sizes) t T__law_sizes := by
  have hu : (A.deeper (envOfC "_law_sizes" (defScope s__law_sizes) s.heap.objs.size f cdv)).units + 64 < cLine := hr.units
  exact ⟨_, (jb_cons (js_set 3 sc__law_sizes.nd (je_callB (cr_max rfl) cd_max rfl m_max (by decide +kernel) (ja_cons (je_lc (own := ([("_law_one", 7)] : List (Str × Nat))) finF finF_ok rfl sc__law_sizes.nd (ji_list (je_var 1)) (blkOk_by (N := N__law_sizes) (sc := defScope s__law_sizes) (by decide +kernel)) (fun _ _ _ _ _ => (jg_name 7 sc__law_sizes.nd)) (by exact (gk_name (vs := [7]) (i := 7))) (fun _ _ _ _ _ => jts_nil) (fun _ _ _ _ _ => (je_callB call_lenA cd_len rfl m_len (by decide +kernel) (ja_cons (je_var 7) ja_nil)))) ja_nil)))
  (jb_cons (js_set 4 sc__law_sizes.nd (je_ix ix_seq opd_ix (je_lst (ja_cons je_int (ja_cons (je_callCG c__law_pick hG (hr.mono (by decide)) rfl (takes_of rfl rfl rfl rfl) (ja_cons (je_var 0) (ja_cons (je_op op_sub opd_sub je_int (je_var 3)) ja_nil))) ja_nil))) (je_callCG c__law_pick hG (hr.mono (by decide)) rfl (takes_of rfl rfl rfl rfl) (ja_cons (je_var 0) (ja_cons je_int ja_nil)))))
  (jb_cons (js_set 5 sc__law_sizes.nd (je_callB (cr_sum rfl) cd_sum rfl m_sum (by decide +kernel) (ja_cons (je_lc (own := ([("_law_one", 7)] : List (Str × Nat))) finF finF_ok rfl sc__law_sizes.nd (ji_list (je_var 1)) (blkOk_by (N := N__law_sizes) (sc := defScope s__law_sizes) (by decide +kernel)) (fun _ _ _ _ _ => (jg_name 7 sc__law_sizes.nd)) (by exact (gk_name (vs := [7]) (i := 7))) (fun _ _ _ _ _ => jts_nil) (fun _ _ _ _ _ => (je_op op_addA opd_add (je_callB call_lenA cd_len rfl m_len (by decide +kernel) (ja_cons (je_var 7) ja_nil)) (je_var 4)))) ja_nil)))
  (jb_cons (js_if (jt_cmp op_gt opd_gt (je_var 5) (je_var 2) (nomark _))
  (jb_one (js_asg (je_tup (ja_cons je_int (ja_cons (je_callB (cr_sum rfl) cd_sum rfl m_sum (by decide +kernel) (ja_cons (je_lc (own := ([("_law_one", 7)] : List (Str × Nat))) finF finF_ok rfl sc__law_sizes.nd (ji_list (je_var 1)) (blkOk_by (N := N__law_sizes) (sc := defScope s__law_sizes) (by decide +kernel)) (fun _ _ _ _ _ => (jg_name 7 sc__law_sizes.nd)) (by exact (gk_name (vs := [7]) (i := 7))) (fun _ _ _ _ _ => jts_nil) (fun _ _ _ _ _ => (je_callB call_lenA cd_len rfl m_len (by decide +kernel) (ja_cons (je_var 7) ja_nil)))) ja_nil)) ja_nil))) (jg_tup rfl (jgs_cons (jg_name 4 sc__law_sizes.nd) (jgs_cons (jg_name 5 sc__law_sizes.nd) jgs_nil)))))
  jb_nil)
  (jb_cons (js_set 6 sc__law_sizes.nd (je_op op_addA opd_add je_int (je_callCG c__law_pick hG (hr.mono (by decide)) rfl (takes_of rfl rfl rfl rfl) (ja_cons (je_var 0) (ja_cons (je_callB (call_max2 rfl) cd_max2 rfl m_max (by decide +kernel) (ja_cons je_int (ja_cons (je_callB (call_min2 rfl) cd_min2 rfl m_min (by decide +kernel) (ja_cons (je_op op_fdivW opd_div je_int (je_callB call_lenA cd_len rfl m_len (by decide +kernel) (ja_cons (je_var 1) ja_nil))) (ja_cons (je_op op_fdivW opd_div (je_var 2) (je_var 5)) ja_nil))) ja_nil))) ja_nil)))))
  (jb_one (js_ret (je_tup (ja_cons (je_var 6) (ja_cons (je_ix ix_seq opd_ix (je_lst (ja_cons je_int (ja_cons je_int (ja_cons (je_op op_powW opd_pow je_int je_int) (ja_cons (je_op op_sub opd_sub (je_op op_powW opd_pow je_int je_int) (je_callCG c__law_pick hG (hr.mono (by decide)) rfl (takes_of rfl rfl rfl rfl) (ja_cons (je_var 0) (ja_cons (je_op op_powW opd_pow je_int je_int) ja_nil)))) ja_nil))))) (je_callCG c__law_pick hG (hr.mono (by decide)) rfl (takes_of rfl rfl rfl rfl) (ja_cons (je_var 0) (ja_cons je_int ja_nil)))) (ja_cons (je_var 4) ja_nil)))))))))))⟩
theorem sc__law_sum : FnScope N__law_sum P__law_sum (defScope s__law_sum) := ⟨rfl, rfl, rfl, by decide +kernel, rfl, by decide +kernel, by decide +kernel⟩
theorem d__law_sum {P : Program} {wd : World} {K : PySem.W.Frag} {mg : Str → Option Value} {base : Heap} {f : Addr} {cdv : Value} {A : Around} {outer : List Env} {s : Shared} {H : Hp} {E : XK} (hG : (A.deeper (envOfC "_law_sum" (defScope s__law_sum) s.heap.objs.size f cdv)).guards = some []) (hr : Room 0 (A.deeper (envOfC "_law_sum" (defScope s__law_sum) s.heap.objs.size f cdv))) (m_max : mg "max" = none) (m_sum : mg "sum" = none) :
    ∃ t, JB (cxOf (L2.CX P wd) P wd K mg base N__law_sum "_law_sum" (defScope s__law_sum) f cdv A outer s H E) (WD E) (defBody s__law_sum) t T__law_sum := by
  have hu : (A.deeper (envOfC "_law_sum" (defScope s__law_sum) s.heap.objs.size f cdv)).units + 64 < cLine := hr.units
  exact ⟨_, (jb_one (js_ret (je_callB (cr_sum rfl) cd_sum rfl m_sum (by decide +kernel) (ja_cons (je_lc (own := ([("_law_low", 2), ("_law_high", 3), ("_law_slope", 4)] : List (Str × Nat))) finF finF_ok rfl sc__law_sum.nd (ji_list (je_var 0)) (blkOk_by (N := N__law_sum) (sc := defScope s__law_sum) (by decide +kernel)) (fun _ _ _ _ _ => (jg_tup rfl (jgs_cons (jg_name 2 sc__law_sum.nd) (jgs_cons (jg_name 3 sc__law_sum.nd) (jgs_cons (jg_name 4 sc__law_sum.nd) jgs_nil))))) (by exact (gk_tup (gks_name (vs := [2, 3, 4]) (i := 2) (gks_name (vs := [2, 3, 4]) (i := 3) (gks_name (vs := [2, 3, 4]) (i := 4) (gks_nil (vs := [2, 3, 4]))))))) (fun _ _ _ _ _ => jts_nil) (fun _ _ _ _ _ => (je_op op_mulA opd_mul (je_var 4) (je_callB (call_max2 rfl) cd_max2 rfl m_max (by decide +kernel) (ja_cons je_int (ja_cons (je_op op_sub opd_sub (je_var 3) (je_callB (call_max2 rfl) cd_max2 rfl m_max (by decide +kernel) (ja_cons (je_var 2) (ja_cons (je_var 1) ja_nil)))) ja_nil)))))) ja_nil))))⟩
theorem sc__law_refused : FnScope N__law_refused P__law_refused (defScope s__law_refused) := ⟨rfl, rfl, rfl, by decide +kernel, rfl, by decide +kernel, by decide +kernel⟩
theorem d__law_refused {C_InvalidNumber C_Style : Addr} {P : Program} {wd : World} {K : PySem.W.Frag} {mg : Str → Option Value} {base : Heap} {f : Addr} {cdv : Value} {A : Around} {outer : List Env} {s : Shared} {H : Hp} {E : XK} (hG : (A.deeper (envOfC "_law_refused" (defScope s__law_refused) s.heap.objs.size f cdv)).guards = some []) (hr : Room 16 (A.deeper (envOfC "_law_refused" (defScope s__law_refused) s.heap.objs.size f cdv))) (c_width_for : CalG P wd K mg base "width_for" s_width_for 16 P_width_for (sp_width_for C_Style C_InvalidNumber)) (xm_InvalidNumber : ∀ C ∈ ([C_InvalidNumber] : List Addr), PySem.W.exmOne K (.ref C) (.ref C_InvalidNumber) = some true) (h_InvalidNumber : mg "InvalidNumber" = some (.ref C_InvalidNumber)) :
    ∃ t, JB (cxOf (L2.CX P wd) P wd K mg base N__law_refused "_law_refused" (defScope s__law_refused) f cdv A outer s H E) (WD E) (defBody s__law_refused) t (T__law_refused C_InvalidNumber C_Style) := by
  have hu : (A.deeper (envOfC "_law_refused" (defScope s__law_refused) s.heap.objs.size f cdv)).units + 64 < cLine := hr.units
  exact ⟨_, (jb_cons (js_tryC (X := cxOf (L2.CX P wd) P wd K mg base N__law_refused "_law_refused" (defScope s__law_refused) f cdv A outer s H E) (d0 := (.bl true)) rfl rfl rfl ⟨rfl, by decide, .inl h_InvalidNumber⟩ xm_InvalidNumber (fun W2 pn xe tkT => (jfb_one (jf_expr (je_callCG c_width_for hG (hr.mono (by decide)) rfl tkT (ja_cons (je_var 0) (ja_cons (je_var 1) (ja_cons (je_var 2) ja_nil))))))) (fun _ _ _ => je_bl))
  (jb_one (js_ret je_bl)))⟩
theorem sc__law_right : FnScope N__law_right P__law_right (defScope s__law_right) := ⟨rfl, rfl, rfl, by decide +kernel, rfl, by decide +kernel, by decide +kernel⟩
theorem d__law_right {C_Style C_InvalidNumber : Addr} {P : Program} {wd : World} {K : PySem.W.Frag} {mg : Str → Option Value} {base : Heap} {f : Addr} {cdv : Value} {A : Around} {outer : List Env} {s : Shared} {H : Hp} {E : XK} (hG : (A.deeper (envOfC "_law_right" (defScope s__law_right) s.heap.objs.size f cdv)).guards = some []) (hr : Room 17 (A.deeper (envOfC "_law_right" (defScope s__law_right) s.heap.objs.size f cdv))) (c__law_named : CalG P wd K mg base "_law_named" s__law_named 6 P__law_named (sp__law_named C_Style)) (c__law_ends : CalG P wd K mg base "_law_ends" s__law_ends 2 P__law_ends sp__law_ends) (m_max : mg "max" = none) (c_narrowest : CalG P wd K mg base "narrowest" s_narrowest 16 P_narrowest (sp_narrowest C_Style)) (c_slopes : CalG P wd K mg base "slopes" s_slopes 16 P_slopes (sp_slopes C_Style)) (m_zip : mg "zip" = none) (c__law_sum : CalG P wd K mg base "_law_sum" s__law_sum 1 P__law_sum sp__law_sum) (c__law_pick : CalG P wd K mg base "_law_pick" s__law_pick 1 P__law_pick sp__law_pick) (m_sorted : mg "sorted" = none) (c_width_for : CalG P wd K mg base "width_for" s_width_for 16 P_width_for (sp_width_for C_Style C_InvalidNumber)) (c__law_refused : CalG P wd K mg base "_law_refused" s__law_refused 17 P__law_refused (sp__law_refused C_Style C_InvalidNumber)) :
    ∃ t, JB (cxOf (L2.CX P wd) P wd K mg base N__law_right "_law_right" (defScope s__law_right) f cdv A outer s H E) (WD E) (defBody s__law_right) t (T__law_right C_Style C_InvalidNumber) := by
  have hu : (A.deeper (envOfC "_law_right" (defScope s__law_right) s.heap.objs.size f cdv)).units + 64 < cLine := hr.units
  exact ⟨_, (jb_cons (js_par 3 4 rfl sc__law_right.nd (ja_cons (je_fzI (je_callCG c__law_named hG (hr.mono (by decide)) rfl (takes_of rfl rfl rfl rfl) (ja_cons (je_var 0) (ja_cons (je_var 2) ja_nil)))) (ja_cons (je_lst ja_nil) ja_nil)))
  (jb_cons (js_par 5 6 rfl sc__law_right.nd (ja_cons (je_callCG c_narrowest hG (hr.mono (by decide)) rfl (takes_of rfl rfl rfl rfl) (ja_cons (je_var 1) (ja_cons (je_var 3) ja_nil))) (ja_cons (je_callB (cr_max rfl) cd_max rfl m_max (by decide +kernel) (ja_cons (je_callCG c__law_ends hG (hr.mono (by decide)) rfl (takes_of rfl rfl rfl rfl) (ja_cons (je_var 1) (ja_cons (je_var 2) ja_nil))) ja_nil)) ja_nil)))
  (jb_cons (js_set 4 sc__law_right.nd (je_callCG c_slopes hG (hr.mono (by decide)) rfl (takes_of rfl rfl rfl rfl) (ja_cons (je_var 1) (ja_cons (je_var 3) ja_nil))))
  (jb_cons (js_if (JW.jt (jw_or (JW.jt (jw_and (jt_cmp (op_neD hu) opd_ne (je_var 4) (je_lst ja_nil) (nomark _)) (jw_and1 (JW.jt (jw_or (jt_cmp op_ne opd_neF (je_ix ix_seq opd_ix (je_ix ix_seq opd_ix (je_var 4) je_int) je_int) (je_var 5) (nomark _)) (jw_or1 (jt_cmp op_ne opd_neF (je_ix ix_seq opd_ix (je_ix ix_seq opd_ix (je_var 4) (je_neg je_int)) je_int) (je_var 6) (nomark _)))))))) (jw_or1 (JW.jt (jw_and (jt_cmp (op_eqD hu) opd_eq (je_var 4) (je_lst ja_nil) (nomark _)) (jw_and1 (jt_cmp op_ne opd_neF (je_var 5) (je_var 6) (nomark _))))))))
  (jb_one (js_ret je_bl))
  jb_nil)
  (jb_cons (js_if (jt_cmp (op_neD hu) opd_ne (je_lc (own := ([("_law_one", 14), ("_law_two", 15)] : List (Str × Nat))) finF finF_ok rfl sc__law_right.nd (ji_zip rfl m_zip (ja_cons (je_var 4) (ja_cons (je_slice sl_list sld_l (je_var 4) (jo_some je_int) jo_none) ja_nil))) (blkOk_by (N := N__law_right) (sc := defScope s__law_right) (by decide +kernel)) (fun _ _ _ _ _ => (jg_tup rfl (jgs_cons (jg_name 14 sc__law_right.nd) (jgs_cons (jg_name 15 sc__law_right.nd) jgs_nil)))) (by exact (gk_tup (gks_name (vs := [14, 15]) (i := 14) (gks_name (vs := [14, 15]) (i := 15) (gks_nil (vs := [14, 15])))))) (fun _ _ _ _ _ => (jts_one (JW.jt (jw_or (jt_cmp op_ne opd_neF (je_ix ix_seq opd_ix (je_var 14) je_int) (je_ix ix_seq opd_ix (je_var 15) je_int) (nomark _)) (jw_or1 (jt_cmp op_le opd_le (je_ix ix_seq opd_ix (je_var 14) je_int) (je_ix ix_seq opd_ix (je_var 15) je_int) (nomark _))))))) (fun _ _ _ _ _ => (je_var 14))) (je_lst ja_nil) (nomark _))
  (jb_one (js_ret je_bl))
  jb_nil)
  (jb_cons (js_set 7 sc__law_right.nd (je_callCG c__law_sum hG (hr.mono (by decide)) rfl (takes_of rfl rfl rfl rfl) (ja_cons (je_var 4) (ja_cons (je_var 5) ja_nil))))
  (jb_cons (js_set 8 sc__law_right.nd (je_lst (ja_cons je_int (ja_cons je_int (ja_cons (je_var 7) (ja_cons (je_op op_addA opd_add (je_var 7) je_int) (ja_cons (je_op op_powW opd_pow je_int je_int) (ja_cons (je_callCG c__law_pick hG (hr.mono (by decide)) rfl (takes_of rfl rfl rfl rfl) (ja_cons (je_var 0) (ja_cons (je_op op_addA opd_add (je_var 7) je_int) ja_nil))) (ja_cons (je_callCG c__law_pick hG (hr.mono (by decide)) rfl (takes_of rfl rfl rfl rfl) (ja_cons (je_var 0) (ja_cons (je_op op_powW opd_pow je_int je_int) ja_nil))) ja_nil)))))))))
  (jb_cons (js_for (passes_of rfl) rfl (ji_list (je_op op_addA opd_add (je_slice sl_list sld_l (je_var 4) jo_none (jo_some je_int)) (je_slice sl_list sld_l (je_var 4) (jo_some (je_neg je_int)) jo_none))) (jg_tup rfl (jgs_cons (jg_name 9 sc__law_right.nd) (jgs_cons (jg_name 10 sc__law_right.nd) (jgs_cons (jg_name 11 sc__law_right.nd) jgs_nil))))
  (jb_one (js_set 8 sc__law_right.nd (je_op op_addA opd_add (je_var 8) (je_lst (ja_cons (je_callCG c__law_sum hG (hr.mono (by decide)) rfl (takes_of rfl rfl rfl rfl) (ja_cons (je_var 4) (ja_cons (je_var 9) ja_nil))) (ja_cons (je_callB (call_max2 rfl) cd_max2 rfl m_max (by decide +kernel) (ja_cons je_int (ja_cons (je_op op_sub opd_sub (je_callCG c__law_sum hG (hr.mono (by decide)) rfl (takes_of rfl rfl rfl rfl) (ja_cons (je_var 4) (ja_cons (je_var 9) ja_nil))) je_int) ja_nil))) (ja_cons (je_op op_addA opd_add (je_callCG c__law_sum hG (hr.mono (by decide)) rfl (takes_of rfl rfl rfl rfl) (ja_cons (je_var 4) (ja_cons (je_var 10) ja_nil))) (je_var 11)) ja_nil))))))))
  (jb_cons (js_set 12 sc__law_right.nd (je_lstO ja_nil))
  (jb_cons (js_for (passes_of rfl) rfl (ji_list (je_callB cr_sortedI cd_sortI rfl m_sorted (by decide +kernel) (ja_cons (je_var 8) ja_nil))) (jg_name 13 sc__law_right.nd)
  (jb_cons (js_expr (je_bm PySem.F.slot_list_append PySem.F.type_list_append mt_append mtd_append (je_var 12) (ja_cons (je_callK0 (ks := (["letters", "style", "table"] : List Str)) (g := fun {α} us ws => pick [2, 1, 0] us ws) c_width_for hG (hr.mono (by decide)) rfl (takes_of rfl rfl rfl rfl) (fun f fd h => kb_of (ps := P_width_for) h 0 ["letters", "style", "table"] (fun {α} us ws => pick [2, 1, 0] us ws) (fun h h2 => pick_vals h h2 _) fun _ _ _ _ _ _ us ws h1 h2 => match us, ws, h1, h2 with | [], [_, _, _], _, _ => rfl) (fun w {_ _ _ _} h h2 => pick_ra h h2 _) (jk_cons (je_var 13) (jk_cons (je_var 3) (jk_cons (je_var 1) jk_nil)))) ja_nil)))
  (jb_cons (js_if (JW.jt (jw_or (jt_cmp op_gt opd_gt (je_callCG c__law_sum hG (hr.mono (by decide)) rfl (takes_of rfl rfl rfl rfl) (ja_cons (je_var 4) (ja_cons (je_ix ix_seq opd_ix (je_var 12) (je_neg je_int)) ja_nil))) (je_var 13) (nomark _)) (jw_or1 (jt_not (jt_chain op_le op_le opd_le opd_le (je_var 5) (je_ix ix_seq opd_ix (je_var 12) (je_neg je_int)) (je_var 6))))))
  (jb_one (js_ret je_bl))
  jb_nil)
  (jb_one (js_if (JW.jt (jw_and (jt_cmp op_gt opd_gt (je_ix ix_seq opd_ix (je_var 12) (je_neg je_int)) (je_var 5) (nomark _)) (jw_and1 (jt_cmp op_le opd_le (je_callCG c__law_sum hG (hr.mono (by decide)) rfl (takes_of rfl rfl rfl rfl) (ja_cons (je_var 4) (ja_cons (je_op op_sub opd_sub (je_ix ix_seq opd_ix (je_var 12) (je_neg je_int)) je_int) ja_nil))) (je_var 13) (nomark _)))))
  (jb_one (js_ret je_bl))
  jb_nil)))))
  (jb_cons (js_if (jt_cmp (op_neD hu) opd_ne (je_lst (ja_cons (je_callCG c_width_for hG (hr.mono (by decide)) rfl (takes_of rfl rfl rfl rfl) (ja_cons (je_var 1) (ja_cons (je_var 3) (ja_cons je_int ja_nil)))) (ja_cons (je_callCG c_width_for hG (hr.mono (by decide)) rfl (takes_of rfl rfl rfl rfl) (ja_cons (je_var 1) (ja_cons (je_var 3) (ja_cons (je_var 7) ja_nil)))) ja_nil))) (je_lst (ja_cons (je_var 6) (ja_cons (je_var 5) ja_nil))) (nomark _))
  (jb_one (js_ret je_bl))
  jb_nil)
  (jb_one (js_ret (je_and (je_cmp (op_eqD hu) opd_eq (je_var 12) (je_rev (je_callB cr_sortedI cd_sortI rfl m_sorted (by decide +kernel) (ja_cons (je_var 12) ja_nil))) (nomark _)) (je_and (je_callCG c__law_refused hG (hr.mono (by decide)) rfl (takes_of rfl rfl rfl rfl) (ja_cons (je_var 1) (ja_cons (je_var 3) (ja_cons (je_neg je_int) ja_nil)))) (je_one (je_callCG c__law_refused hG (hr.mono (by decide)) rfl (takes_of rfl rfl rfl rfl) (ja_cons (je_var 1) (ja_cons (je_var 3) (ja_cons (je_op op_sub opd_sub je_int (je_op op_powW opd_pow je_int je_int)) ja_nil))))))))))))))))))))⟩
theorem sc_law : FnScope N_law P_law (defScope s_law) := ⟨rfl, rfl, rfl, by decide +kernel, rfl, by decide +kernel, by decide +kernel⟩
theorem d_law {P : Program} {wd : World} {K : PySem.W.Frag} {mg : Str → Option Value} {base : Heap} {f : Addr} {cdv : Value} {A : Around} {outer : List Env} {s : Shared} {H : Hp} {E : XK} (hG : (A.deeper (envOfC "law" (defScope s_law) s.heap.objs.size f cdv)).guards = some []) (hr : Room 18 (A.deeper (envOfC "law" (defScope s_law) s.heap.objs.size f cdv))) (c__law_source : CalG P wd K mg base "_law_source" s__law_source 1 P__law_source sp__law_source) (m_len : mg "len" = none) (m_min : mg "min" = none) (m_range : mg "range" = none) (c__law_pick : CalG P wd K mg base "_law_pick" s__law_pick 1 P__law_pick sp__law_pick) (c__law_grid : CalG P wd K mg base "_law_grid" s__law_grid 2 P__law_grid sp__law_grid) (c__law_look : CalG P wd K mg base "_law_look" s__law_look 2 P__law_look sp__law_look) (c__law_right : CalG P wd K mg base "_law_right" s__law_right 18 P__law_right sp__law_right) (c__law_grown : CalG P wd K mg base "_law_grown" s__law_grown 1 P__law_grown sp__law_grown) (c__law_sizes : CalG P wd K mg base "_law_sizes" s__law_sizes 2 P__law_sizes sp__law_sizes) :
    ∃ t, JB (cxOf (L2.CX P wd) P wd K mg base N_law "law" (defScope s_law) f cdv A outer s H E) (WD E) (defBody s_law) t T_law := by
  have hu : (A.deeper (envOfC "law" (defScope s_law) s.heap.objs.size f cdv)).units + 64 < cLine := hr.units
  exact ⟨_, (jb_cons (js_set 1 sc_law.nd (je_callCG c__law_source hG (hr.mono (by decide)) rfl (takes_of rfl rfl rfl rfl) (ja_cons (je_var 0) ja_nil)))
  (jb_cons (js_for (passes_of rfl) rfl (ji_range1 rfl m_range (ja_cons (je_op op_addA opd_add je_int (je_callB (call_min2 rfl) cd_min2 rfl m_min (by decide +kernel) (ja_cons (je_callB call_lenA cd_len rfl m_len (by decide +kernel) (ja_cons (je_var 0) ja_nil)) (ja_cons je_int ja_nil)))) ja_nil)) (jg_name 2 sc_law.nd)
  (jb_cons (js_set 3 sc_law.nd (je_ix ix_seq opd_ix (je_lst (ja_cons je_int (ja_cons je_int ja_nil))) (je_callCG c__law_pick hG (hr.mono (by decide)) rfl (takes_of rfl rfl rfl rfl) (ja_cons (je_var 1) (ja_cons je_int ja_nil)))))
  (jb_cons (js_set 4 sc_law.nd (je_callCG c__law_grid hG (hr.mono (by decide)) rfl (takes_of rfl rfl rfl rfl) (ja_cons (je_var 1) (ja_cons je_int (ja_cons je_int (ja_cons (je_var 3) ja_nil))))))
  (jb_cons (js_set 5 sc_law.nd (je_callCG c__law_look hG (hr.mono (by decide)) rfl (takes_of rfl rfl rfl rfl) (ja_cons (je_var 1) (ja_cons (je_op op_sub opd_sub (je_var 3) je_int) ja_nil))))
  (jb_cons (js_if (jt_not (jt_val (je_callCG c__law_right hG (hr.mono (by decide)) rfl (takes_of rfl rfl rfl rfl) (ja_cons (je_var 1) (ja_cons (je_var 4) (ja_cons (je_var 5) ja_nil))))))
  (jb_one (js_ret je_bl))
  jb_nil)
  (jb_cons (js_asg (je_callCG c__law_grown hG (hr.mono (by decide)) rfl (takes_of rfl rfl rfl rfl) (ja_cons (je_var 4) (ja_cons (je_var 5) (ja_cons (je_callCG c__law_sizes hG (hr.mono (by decide)) rfl (takes_of rfl rfl rfl rfl) (ja_cons (je_var 1) (ja_cons (je_var 4) (ja_cons (je_ix ix_seq opd_ix (je_lst (ja_cons je_int (ja_cons je_int ja_nil))) (je_var 2)) ja_nil)))) ja_nil)))) (jg_tup rfl (jgs_cons (jg_name 6 sc_law.nd) (jgs_cons (jg_name 7 sc_law.nd) jgs_nil))))
  (jb_one (js_if (jt_not (jt_val (je_callCG c__law_right hG (hr.mono (by decide)) rfl (takes_of rfl rfl rfl rfl) (ja_cons (je_var 1) (ja_cons (je_var 6) (ja_cons (je_var 7) ja_nil))))))
  (jb_one (js_ret je_bl))
  jb_nil))))))))
  (jb_one (js_ret je_bl))))⟩
end DL
namespace DL
open PySem PySem.Spec PyProof.Rows L2
theorem fun_one {K : PySem.W.Frag} {x : Str} {st : Stmt} {f : Addr} {fd fd2 : FuncData} (F : FunS K x st f fd) (F2 : FunS K x st f fd2) : fd = fd2 := by
  obtain ⟨⟨_, _, _, _, _, _, _, _, _, _, _, e, lk, _⟩, _⟩ := F
  obtain ⟨⟨_, _, _, _, _, _, _, _, _, _, _, e2, lk2, _⟩, _⟩ := F2
  rw [e] at e2
  cases e2
  rfl
theorem len_is_integer : ∀ ds S Φ Ψ, sp_is_integer ds S Φ Ψ → ds.length = (P_is_integer : List Str).length := by
  intro ds S Φ Ψ h
  repeat' (first | (obtain ⟨e, _⟩ := h; (rw [e]; rfl)) | (refine Or.elim h ?_ ?_ <;> clear h <;> intro h) | (obtain ⟨_, h⟩ := h))
theorem len_is_cell : ∀ ds S Φ Ψ, sp_is_cell ds S Φ Ψ → ds.length = (P_is_cell : List Str).length := by
  intro ds S Φ Ψ h
  repeat' (first | (obtain ⟨e, _⟩ := h; (rw [e]; rfl)) | (refine Or.elim h ?_ ?_ <;> clear h <;> intro h) | (obtain ⟨_, h⟩ := h))
theorem len_is_line : ∀ ds S Φ Ψ, sp_is_line ds S Φ Ψ → ds.length = (P_is_line : List Str).length := by
  intro ds S Φ Ψ h
  repeat' (first | (obtain ⟨e, _⟩ := h; (rw [e]; rfl)) | (refine Or.elim h ?_ ?_ <;> clear h <;> intro h) | (obtain ⟨_, h⟩ := h))
theorem len_is_table : ∀ ds S Φ Ψ, sp_is_table ds S Φ Ψ → ds.length = (P_is_table : List Str).length := by
  intro ds S Φ Ψ h
  repeat' (first | (obtain ⟨e, _⟩ := h; (rw [e]; rfl)) | (refine Or.elim h ?_ ?_ <;> clear h <;> intro h) | (obtain ⟨_, h⟩ := h))
theorem len_need_table : ∀ ds S Φ Ψ, sp_need_table ds S Φ Ψ → ds.length = (P_need_table : List Str).length := by
  intro ds S Φ Ψ h
  repeat' (first | (obtain ⟨e, _⟩ := h; (rw [e]; rfl)) | (refine Or.elim h ?_ ?_ <;> clear h <;> intro h) | (obtain ⟨_, h⟩ := h))
theorem len_tabs_in : ∀ ds S Φ Ψ, sp_tabs_in ds S Φ Ψ → ds.length = (P_tabs_in : List Str).length := by
  intro ds S Φ Ψ h
  repeat' (first | (obtain ⟨e, _⟩ := h; (rw [e]; rfl)) | (refine Or.elim h ?_ ?_ <;> clear h <;> intro h) | (obtain ⟨_, h⟩ := h))
theorem len_blocks_of_column : ∀ ds S Φ Ψ, sp_blocks_of_column ds S Φ Ψ → ds.length = (P_blocks_of_column : List Str).length := by
  intro ds S Φ Ψ h
  repeat' (first | (obtain ⟨e, _⟩ := h; (rw [e]; rfl)) | (refine Or.elim h ?_ ?_ <;> clear h <;> intro h) | (obtain ⟨_, h⟩ := h))
theorem len_blocks_by_tabs : ∀ ds S Φ Ψ, sp_blocks_by_tabs ds S Φ Ψ → ds.length = (P_blocks_by_tabs : List Str).length := by
  intro ds S Φ Ψ h
  repeat' (first | (obtain ⟨e, _⟩ := h; (rw [e]; rfl)) | (refine Or.elim h ?_ ?_ <;> clear h <;> intro h) | (obtain ⟨_, h⟩ := h))
theorem len_blocks_in : ∀ ds S Φ Ψ, sp_blocks_in ds S Φ Ψ → ds.length = (P_blocks_in : List Str).length := by
  intro ds S Φ Ψ h
  repeat' (first | (obtain ⟨e, _⟩ := h; (rw [e]; rfl)) | (refine Or.elim h ?_ ?_ <;> clear h <;> intro h) | (obtain ⟨_, h⟩ := h))
theorem len_greatest_in : ∀ ds S Φ Ψ, sp_greatest_in ds S Φ Ψ → ds.length = (P_greatest_in : List Str).length := by
  intro ds S Φ Ψ h
  repeat' (first | (obtain ⟨e, _⟩ := h; (rw [e]; rfl)) | (refine Or.elim h ?_ ?_ <;> clear h <;> intro h) | (obtain ⟨_, h⟩ := h))
theorem len_room_of {C_Style : Addr} : ∀ ds S Φ Ψ, (sp_room_of C_Style) ds S Φ Ψ → ds.length = (P_room_of : List Str).length := by
  intro ds S Φ Ψ h
  repeat' (first | (obtain ⟨e, _⟩ := h; (rw [e]; rfl)) | (refine Or.elim h ?_ ?_ <;> clear h <;> intro h) | (obtain ⟨_, h⟩ := h))
theorem len_rooms_in {C_Style : Addr} : ∀ ds S Φ Ψ, (sp_rooms_in C_Style) ds S Φ Ψ → ds.length = (P_rooms_in : List Str).length := by
  intro ds S Φ Ψ h
  repeat' (first | (obtain ⟨e, _⟩ := h; (rw [e]; rfl)) | (refine Or.elim h ?_ ?_ <;> clear h <;> intro h) | (obtain ⟨_, h⟩ := h))
theorem len_stops_in {C_Style : Addr} : ∀ ds S Φ Ψ, (sp_stops_in C_Style) ds S Φ Ψ → ds.length = (P_stops_in : List Str).length := by
  intro ds S Φ Ψ h
  repeat' (first | (obtain ⟨e, _⟩ := h; (rw [e]; rfl)) | (refine Or.elim h ?_ ?_ <;> clear h <;> intro h) | (obtain ⟨_, h⟩ := h))
theorem len_ends_in {C_Style : Addr} : ∀ ds S Φ Ψ, (sp_ends_in C_Style) ds S Φ Ψ → ds.length = (P_ends_in : List Str).length := by
  intro ds S Φ Ψ h
  repeat' (first | (obtain ⟨e, _⟩ := h; (rw [e]; rfl)) | (refine Or.elim h ?_ ?_ <;> clear h <;> intro h) | (obtain ⟨_, h⟩ := h))
theorem len_bottom_of : ∀ ds S Φ Ψ, sp_bottom_of ds S Φ Ψ → ds.length = (P_bottom_of : List Str).length := by
  intro ds S Φ Ψ h
  repeat' (first | (obtain ⟨e, _⟩ := h; (rw [e]; rfl)) | (refine Or.elim h ?_ ?_ <;> clear h <;> intro h) | (obtain ⟨_, h⟩ := h))
theorem len_block_steps : ∀ ds S Φ Ψ, sp_block_steps ds S Φ Ψ → ds.length = (P_block_steps : List Str).length := by
  intro ds S Φ Ψ h
  repeat' (first | (obtain ⟨e, _⟩ := h; (rw [e]; rfl)) | (refine Or.elim h ?_ ?_ <;> clear h <;> intro h) | (obtain ⟨_, h⟩ := h))
theorem len_merged_steps : ∀ ds S Φ Ψ, sp_merged_steps ds S Φ Ψ → ds.length = (P_merged_steps : List Str).length := by
  intro ds S Φ Ψ h
  repeat' (first | (obtain ⟨e, _⟩ := h; (rw [e]; rfl)) | (refine Or.elim h ?_ ?_ <;> clear h <;> intro h) | (obtain ⟨_, h⟩ := h))
theorem len_summed_curve : ∀ ds S Φ Ψ, sp_summed_curve ds S Φ Ψ → ds.length = (P_summed_curve : List Str).length := by
  intro ds S Φ Ψ h
  repeat' (first | (obtain ⟨e, _⟩ := h; (rw [e]; rfl)) | (refine Or.elim h ?_ ?_ <;> clear h <;> intro h) | (obtain ⟨_, h⟩ := h))
theorem len_run_end : ∀ ds S Φ Ψ, sp_run_end ds S Φ Ψ → ds.length = (P_run_end : List Str).length := by
  intro ds S Φ Ψ h
  repeat' (first | (obtain ⟨e, _⟩ := h; (rw [e]; rfl)) | (refine Or.elim h ?_ ?_ <;> clear h <;> intro h) | (obtain ⟨_, h⟩ := h))
theorem len_lines_curve (m : Nat) : ∀ ds S Φ Ψ, (sp_lines_curve m) ds S Φ Ψ → ds.length = (P_lines_curve : List Str).length := by
  intro ds S Φ Ψ h
  repeat' (first | (obtain ⟨e, _⟩ := h; (rw [e]; rfl)) | (refine Or.elim h ?_ ?_ <;> clear h <;> intro h) | (obtain ⟨_, h⟩ := h))
theorem len_page_curve {C_Style : Addr} : ∀ ds S Φ Ψ, (sp_page_curve C_Style) ds S Φ Ψ → ds.length = (P_page_curve : List Str).length := by
  intro ds S Φ Ψ h
  repeat' (first | (obtain ⟨e, _⟩ := h; (rw [e]; rfl)) | (refine Or.elim h ?_ ?_ <;> clear h <;> intro h) | (obtain ⟨_, h⟩ := h))
theorem len_narrowest {C_Style : Addr} : ∀ ds S Φ Ψ, (sp_narrowest C_Style) ds S Φ Ψ → ds.length = (P_narrowest : List Str).length := by
  intro ds S Φ Ψ h
  repeat' (first | (obtain ⟨e, _⟩ := h; (rw [e]; rfl)) | (refine Or.elim h ?_ ?_ <;> clear h <;> intro h) | (obtain ⟨_, h⟩ := h))
theorem len_slopes {C_Style : Addr} : ∀ ds S Φ Ψ, (sp_slopes C_Style) ds S Φ Ψ → ds.length = (P_slopes : List Str).length := by
  intro ds S Φ Ψ h
  repeat' (first | (obtain ⟨e, _⟩ := h; (rw [e]; rfl)) | (refine Or.elim h ?_ ?_ <;> clear h <;> intro h) | (obtain ⟨_, h⟩ := h))
theorem len_width_for {C_Style C_InvalidNumber : Addr} : ∀ ds S Φ Ψ, (sp_width_for C_Style C_InvalidNumber) ds S Φ Ψ → ds.length = (P_width_for : List Str).length := by
  intro ds S Φ Ψ h
  repeat' (first | (obtain ⟨e, _⟩ := h; (rw [e]; rfl)) | (refine Or.elim h ?_ ?_ <;> clear h <;> intro h) | (obtain ⟨_, h⟩ := h))
theorem len_are_kinds : ∀ ds S Φ Ψ, sp_are_kinds ds S Φ Ψ → ds.length = (P_are_kinds : List Str).length := by
  intro ds S Φ Ψ h
  repeat' (first | (obtain ⟨e, _⟩ := h; (rw [e]; rfl)) | (refine Or.elim h ?_ ?_ <;> clear h <;> intro h) | (obtain ⟨_, h⟩ := h))
theorem len_Style___init__ {C_Style : Addr} : ∀ ds S Φ Ψ, (sp_Style___init__ C_Style) ds S Φ Ψ → ds.length = (P_Style___init__ : List Str).length := by
  intro ds S Φ Ψ h
  repeat' (first | (obtain ⟨e, _⟩ := h; (rw [e]; rfl)) | (refine Or.elim h ?_ ?_ <;> clear h <;> intro h) | (obtain ⟨_, h⟩ := h))
theorem len_Style_of {C_Style : Addr} : ∀ ds S Φ Ψ, (sp_Style_of C_Style) ds S Φ Ψ → ds.length = (P_Style_of : List Str).length := by
  intro ds S Φ Ψ h
  repeat' (first | (obtain ⟨e, _⟩ := h; (rw [e]; rfl)) | (refine Or.elim h ?_ ?_ <;> clear h <;> intro h) | (obtain ⟨_, h⟩ := h))
theorem len_Style_gap {C_Style : Addr} : ∀ ds S Φ Ψ, (sp_Style_gap C_Style) ds S Φ Ψ → ds.length = (P_Style_gap : List Str).length := by
  intro ds S Φ Ψ h
  repeat' (first | (obtain ⟨e, _⟩ := h; (rw [e]; rfl)) | (refine Or.elim h ?_ ?_ <;> clear h <;> intro h) | (obtain ⟨_, h⟩ := h))
theorem len_Style_least {C_Style : Addr} : ∀ ds S Φ Ψ, (sp_Style_least C_Style) ds S Φ Ψ → ds.length = (P_Style_least : List Str).length := by
  intro ds S Φ Ψ h
  repeat' (first | (obtain ⟨e, _⟩ := h; (rw [e]; rfl)) | (refine Or.elim h ?_ ?_ <;> clear h <;> intro h) | (obtain ⟨_, h⟩ := h))
theorem len__law_source : ∀ ds S Φ Ψ, sp__law_source ds S Φ Ψ → ds.length = (P__law_source : List Str).length := by
  intro ds S Φ Ψ h
  repeat' (first | (obtain ⟨e, _⟩ := h; (rw [e]; rfl)) | (refine Or.elim h ?_ ?_ <;> clear h <;> intro h) | (obtain ⟨_, h⟩ := h))
theorem len__law_pick : ∀ ds S Φ Ψ, sp__law_pick ds S Φ Ψ → ds.length = (P__law_pick : List Str).length := by
  intro ds S Φ Ψ h
  repeat' (first | (obtain ⟨e, _⟩ := h; (rw [e]; rfl)) | (refine Or.elim h ?_ ?_ <;> clear h <;> intro h) | (obtain ⟨_, h⟩ := h))
theorem len__law_look : ∀ ds S Φ Ψ, sp__law_look ds S Φ Ψ → ds.length = (P__law_look : List Str).length := by
  intro ds S Φ Ψ h
  repeat' (first | (obtain ⟨e, _⟩ := h; (rw [e]; rfl)) | (refine Or.elim h ?_ ?_ <;> clear h <;> intro h) | (obtain ⟨_, h⟩ := h))
theorem len__law_named {C_Style : Addr} : ∀ ds S Φ Ψ, (sp__law_named C_Style) ds S Φ Ψ → ds.length = (P__law_named : List Str).length := by
  intro ds S Φ Ψ h
  repeat' (first | (obtain ⟨e, _⟩ := h; (rw [e]; rfl)) | (refine Or.elim h ?_ ?_ <;> clear h <;> intro h) | (obtain ⟨_, h⟩ := h))
theorem len__law_grid : ∀ ds S Φ Ψ, sp__law_grid ds S Φ Ψ → ds.length = (P__law_grid : List Str).length := by
  intro ds S Φ Ψ h
  repeat' (first | (obtain ⟨e, _⟩ := h; (rw [e]; rfl)) | (refine Or.elim h ?_ ?_ <;> clear h <;> intro h) | (obtain ⟨_, h⟩ := h))
theorem len__law_span : ∀ ds S Φ Ψ, sp__law_span ds S Φ Ψ → ds.length = (P__law_span : List Str).length := by
  intro ds S Φ Ψ h
  repeat' (first | (obtain ⟨e, _⟩ := h; (rw [e]; rfl)) | (refine Or.elim h ?_ ?_ <;> clear h <;> intro h) | (obtain ⟨_, h⟩ := h))
theorem len__law_ends : ∀ ds S Φ Ψ, sp__law_ends ds S Φ Ψ → ds.length = (P__law_ends : List Str).length := by
  intro ds S Φ Ψ h
  repeat' (first | (obtain ⟨e, _⟩ := h; (rw [e]; rfl)) | (refine Or.elim h ?_ ?_ <;> clear h <;> intro h) | (obtain ⟨_, h⟩ := h))
theorem len__law_grown : ∀ ds S Φ Ψ, sp__law_grown ds S Φ Ψ → ds.length = (P__law_grown : List Str).length := by
  intro ds S Φ Ψ h
  repeat' (first | (obtain ⟨e, _⟩ := h; (rw [e]; rfl)) | (refine Or.elim h ?_ ?_ <;> clear h <;> intro h) | (obtain ⟨_, h⟩ := h))
theorem len__law_sizes : ∀ ds S Φ Ψ, sp__law_sizes ds S Φ Ψ → ds.length = (P__law_sizes : List Str).length := by
  intro ds S Φ Ψ h
  repeat' (first | (obtain ⟨e, _⟩ := h; (rw [e]; rfl)) | (refine Or.elim h ?_ ?_ <;> clear h <;> intro h) | (obtain ⟨_, h⟩ := h))
theorem len__law_sum : ∀ ds S Φ Ψ, sp__law_sum ds S Φ Ψ → ds.length = (P__law_sum : List Str).length := by
  intro ds S Φ Ψ h
  repeat' (first | (obtain ⟨e, _⟩ := h; (rw [e]; rfl)) | (refine Or.elim h ?_ ?_ <;> clear h <;> intro h) | (obtain ⟨_, h⟩ := h))
theorem len__law_refused {C_Style C_InvalidNumber : Addr} : ∀ ds S Φ Ψ, (sp__law_refused C_Style C_InvalidNumber) ds S Φ Ψ → ds.length = (P__law_refused : List Str).length := by
  intro ds S Φ Ψ h
  repeat' (first | (obtain ⟨e, _⟩ := h; (rw [e]; rfl)) | (refine Or.elim h ?_ ?_ <;> clear h <;> intro h) | (obtain ⟨_, h⟩ := h))
theorem len__law_right : ∀ ds S Φ Ψ, sp__law_right ds S Φ Ψ → ds.length = (P__law_right : List Str).length := by
  intro ds S Φ Ψ h
  repeat' (first | (obtain ⟨e, _⟩ := h; (rw [e]; rfl)) | (refine Or.elim h ?_ ?_ <;> clear h <;> intro h) | (obtain ⟨_, h⟩ := h))
theorem len_law : ∀ ds S Φ Ψ, sp_law ds S Φ Ψ → ds.length = (P_law : List Str).length := by
  intro ds S Φ Ψ h
  repeat' (first | (obtain ⟨e, _⟩ := h; (rw [e]; rfl)) | (refine Or.elim h ?_ ?_ <;> clear h <;> intro h) | (obtain ⟨_, h⟩ := h))
theorem factsL {P : Program} {wd : World} {K : PySem.W.Frag} {h : Heap} {mg : Str → Option Value} {f : Addr} (X : K.In h) (G : h.Ns mainGlobals mg) (hfa : mg ("law" : Str) = some (.ref f)) (c : SaysX faL fnL K) :
    ∃ fd : FuncData, (∀ (s : Shared) (v : Value), BindsTo s fd ⟨[v], []⟩ [("_law_script", v)]) ∧ ∀ base : Heap, K.In base → base.Ns mainGlobals mg → FnOkG P wd K mg base (L2.CX P wd) 19 f fd ["_law_script"] (spOf K sp_law) := by
  have t_is_integer : Tx K mg "is_integer" s_is_integer := ⟨let ⟨fd, F⟩ := c.def_ 0 (d := dd_is_integer) rfl; ⟨_, fd, F, He.glo_ok X G (c.fact 0 (f := (fun K => (He.Fa.glo "is_integer").ok K)) rfl)⟩⟩
  have t_is_cell : Tx K mg "is_cell" s_is_cell := ⟨let ⟨fd, F⟩ := c.def_ 1 (d := dd_is_cell) rfl; ⟨_, fd, F, He.glo_ok X G (c.fact 1 (f := (fun K => (He.Fa.glo "is_cell").ok K)) rfl)⟩⟩
  have t_is_line : Tx K mg "is_line" s_is_line := ⟨let ⟨fd, F⟩ := c.def_ 2 (d := dd_is_line) rfl; ⟨_, fd, F, He.glo_ok X G (c.fact 2 (f := (fun K => (He.Fa.glo "is_line").ok K)) rfl)⟩⟩
  have t_is_table : Tx K mg "is_table" s_is_table := ⟨let ⟨fd, F⟩ := c.def_ 3 (d := dd_is_table) rfl; ⟨_, fd, F, He.glo_ok X G (c.fact 3 (f := (fun K => (He.Fa.glo "is_table").ok K)) rfl)⟩⟩
  have t_need_table : Tx K mg "need_table" s_need_table := ⟨let ⟨fd, F⟩ := c.def_ 4 (d := dd_need_table) rfl; ⟨_, fd, F, He.glo_ok X G (c.fact 4 (f := (fun K => (He.Fa.glo "need_table").ok K)) rfl)⟩⟩
  have t_tabs_in : Tx K mg "tabs_in" s_tabs_in := ⟨let ⟨fd, F⟩ := c.def_ 5 (d := dd_tabs_in) rfl; ⟨_, fd, F, He.glo_ok X G (c.fact 5 (f := (fun K => (He.Fa.glo "tabs_in").ok K)) rfl)⟩⟩
  have t_blocks_of_column : Tx K mg "blocks_of_column" s_blocks_of_column := ⟨let ⟨fd, F⟩ := c.def_ 6 (d := dd_blocks_of_column) rfl; ⟨_, fd, F, He.glo_ok X G (c.fact 6 (f := (fun K => (He.Fa.glo "blocks_of_column").ok K)) rfl)⟩⟩
  have t_blocks_by_tabs : Tx K mg "blocks_by_tabs" s_blocks_by_tabs := ⟨let ⟨fd, F⟩ := c.def_ 7 (d := dd_blocks_by_tabs) rfl; ⟨_, fd, F, He.glo_ok X G (c.fact 7 (f := (fun K => (He.Fa.glo "blocks_by_tabs").ok K)) rfl)⟩⟩
  have t_blocks_in : Tx K mg "blocks_in" s_blocks_in := ⟨let ⟨fd, F⟩ := c.def_ 8 (d := dd_blocks_in) rfl; ⟨_, fd, F, He.glo_ok X G (c.fact 8 (f := (fun K => (He.Fa.glo "blocks_in").ok K)) rfl)⟩⟩
  have t_greatest_in : Tx K mg "greatest_in" s_greatest_in := ⟨let ⟨fd, F⟩ := c.def_ 9 (d := dd_greatest_in) rfl; ⟨_, fd, F, He.glo_ok X G (c.fact 9 (f := (fun K => (He.Fa.glo "greatest_in").ok K)) rfl)⟩⟩
  have t_room_of : Tx K mg "room_of" s_room_of := ⟨let ⟨fd, F⟩ := c.def_ 10 (d := dd_room_of) rfl; ⟨_, fd, F, He.glo_ok X G (c.fact 10 (f := (fun K => (He.Fa.glo "room_of").ok K)) rfl)⟩⟩
  have t_rooms_in : Tx K mg "rooms_in" s_rooms_in := ⟨let ⟨fd, F⟩ := c.def_ 11 (d := dd_rooms_in) rfl; ⟨_, fd, F, He.glo_ok X G (c.fact 11 (f := (fun K => (He.Fa.glo "rooms_in").ok K)) rfl)⟩⟩
  have t_stops_in : Tx K mg "stops_in" s_stops_in := ⟨let ⟨fd, F⟩ := c.def_ 12 (d := dd_stops_in) rfl; ⟨_, fd, F, He.glo_ok X G (c.fact 12 (f := (fun K => (He.Fa.glo "stops_in").ok K)) rfl)⟩⟩
  have t_ends_in : Tx K mg "ends_in" s_ends_in := ⟨let ⟨fd, F⟩ := c.def_ 13 (d := dd_ends_in) rfl; ⟨_, fd, F, He.glo_ok X G (c.fact 13 (f := (fun K => (He.Fa.glo "ends_in").ok K)) rfl)⟩⟩
  have t_bottom_of : Tx K mg "bottom_of" s_bottom_of := ⟨let ⟨fd, F⟩ := c.def_ 14 (d := dd_bottom_of) rfl; ⟨_, fd, F, He.glo_ok X G (c.fact 14 (f := (fun K => (He.Fa.glo "bottom_of").ok K)) rfl)⟩⟩
  have t_block_steps : Tx K mg "block_steps" s_block_steps := ⟨let ⟨fd, F⟩ := c.def_ 15 (d := dd_block_steps) rfl; ⟨_, fd, F, He.glo_ok X G (c.fact 15 (f := (fun K => (He.Fa.glo "block_steps").ok K)) rfl)⟩⟩
  have t_merged_steps : Tx K mg "merged_steps" s_merged_steps := ⟨let ⟨fd, F⟩ := c.def_ 16 (d := dd_merged_steps) rfl; ⟨_, fd, F, He.glo_ok X G (c.fact 16 (f := (fun K => (He.Fa.glo "merged_steps").ok K)) rfl)⟩⟩
  have t_summed_curve : Tx K mg "summed_curve" s_summed_curve := ⟨let ⟨fd, F⟩ := c.def_ 17 (d := dd_summed_curve) rfl; ⟨_, fd, F, He.glo_ok X G (c.fact 17 (f := (fun K => (He.Fa.glo "summed_curve").ok K)) rfl)⟩⟩
  have t_run_end : Tx K mg "run_end" s_run_end := ⟨let ⟨fd, F⟩ := c.def_ 18 (d := dd_run_end) rfl; ⟨_, fd, F, He.glo_ok X G (c.fact 18 (f := (fun K => (He.Fa.glo "run_end").ok K)) rfl)⟩⟩
  have t_lines_curve : Tx K mg "lines_curve" s_lines_curve := ⟨let ⟨fd, F⟩ := c.def_ 19 (d := dd_lines_curve) rfl; ⟨_, fd, F, He.glo_ok X G (c.fact 19 (f := (fun K => (He.Fa.glo "lines_curve").ok K)) rfl)⟩⟩
  have t_page_curve : Tx K mg "page_curve" s_page_curve := ⟨let ⟨fd, F⟩ := c.def_ 20 (d := dd_page_curve) rfl; ⟨_, fd, F, He.glo_ok X G (c.fact 20 (f := (fun K => (He.Fa.glo "page_curve").ok K)) rfl)⟩⟩
  have t_narrowest : Tx K mg "narrowest" s_narrowest := ⟨let ⟨fd, F⟩ := c.def_ 21 (d := dd_narrowest) rfl; ⟨_, fd, F, He.glo_ok X G (c.fact 21 (f := (fun K => (He.Fa.glo "narrowest").ok K)) rfl)⟩⟩
  have t_slopes : Tx K mg "slopes" s_slopes := ⟨let ⟨fd, F⟩ := c.def_ 22 (d := dd_slopes) rfl; ⟨_, fd, F, He.glo_ok X G (c.fact 22 (f := (fun K => (He.Fa.glo "slopes").ok K)) rfl)⟩⟩
  have t_width_for : Tx K mg "width_for" s_width_for := ⟨let ⟨fd, F⟩ := c.def_ 23 (d := dd_width_for) rfl; ⟨_, fd, F, He.glo_ok X G (c.fact 23 (f := (fun K => (He.Fa.glo "width_for").ok K)) rfl)⟩⟩
  have t_are_kinds : Tx K mg "are_kinds" s_are_kinds := ⟨let ⟨fd, F⟩ := c.def_ 24 (d := dd_are_kinds) rfl; ⟨_, fd, F, He.glo_ok X G (c.fact 24 (f := (fun K => (He.Fa.glo "are_kinds").ok K)) rfl)⟩⟩
  have t__law_source : Tx K mg "_law_source" s__law_source := ⟨let ⟨fd, F⟩ := c.def_ 29 (d := dd__law_source) rfl; ⟨_, fd, F, He.glo_ok X G (c.fact 25 (f := (fun K => (He.Fa.glo "_law_source").ok K)) rfl)⟩⟩
  have t__law_pick : Tx K mg "_law_pick" s__law_pick := ⟨let ⟨fd, F⟩ := c.def_ 30 (d := dd__law_pick) rfl; ⟨_, fd, F, He.glo_ok X G (c.fact 26 (f := (fun K => (He.Fa.glo "_law_pick").ok K)) rfl)⟩⟩
  have t__law_look : Tx K mg "_law_look" s__law_look := ⟨let ⟨fd, F⟩ := c.def_ 31 (d := dd__law_look) rfl; ⟨_, fd, F, He.glo_ok X G (c.fact 27 (f := (fun K => (He.Fa.glo "_law_look").ok K)) rfl)⟩⟩
  have t__law_named : Tx K mg "_law_named" s__law_named := ⟨let ⟨fd, F⟩ := c.def_ 32 (d := dd__law_named) rfl; ⟨_, fd, F, He.glo_ok X G (c.fact 28 (f := (fun K => (He.Fa.glo "_law_named").ok K)) rfl)⟩⟩
  have t__law_grid : Tx K mg "_law_grid" s__law_grid := ⟨let ⟨fd, F⟩ := c.def_ 33 (d := dd__law_grid) rfl; ⟨_, fd, F, He.glo_ok X G (c.fact 29 (f := (fun K => (He.Fa.glo "_law_grid").ok K)) rfl)⟩⟩
  have t__law_span : Tx K mg "_law_span" s__law_span := ⟨let ⟨fd, F⟩ := c.def_ 34 (d := dd__law_span) rfl; ⟨_, fd, F, He.glo_ok X G (c.fact 30 (f := (fun K => (He.Fa.glo "_law_span").ok K)) rfl)⟩⟩
  have t__law_ends : Tx K mg "_law_ends" s__law_ends := ⟨let ⟨fd, F⟩ := c.def_ 35 (d := dd__law_ends) rfl; ⟨_, fd, F, He.glo_ok X G (c.fact 31 (f := (fun K => (He.Fa.glo "_law_ends").ok K)) rfl)⟩⟩
  have t__law_grown : Tx K mg "_law_grown" s__law_grown := ⟨let ⟨fd, F⟩ := c.def_ 36 (d := dd__law_grown) rfl; ⟨_, fd, F, He.glo_ok X G (c.fact 32 (f := (fun K => (He.Fa.glo "_law_grown").ok K)) rfl)⟩⟩
  have t__law_sizes : Tx K mg "_law_sizes" s__law_sizes := ⟨let ⟨fd, F⟩ := c.def_ 37 (d := dd__law_sizes) rfl; ⟨_, fd, F, He.glo_ok X G (c.fact 33 (f := (fun K => (He.Fa.glo "_law_sizes").ok K)) rfl)⟩⟩
  have t__law_sum : Tx K mg "_law_sum" s__law_sum := ⟨let ⟨fd, F⟩ := c.def_ 38 (d := dd__law_sum) rfl; ⟨_, fd, F, He.glo_ok X G (c.fact 34 (f := (fun K => (He.Fa.glo "_law_sum").ok K)) rfl)⟩⟩
  have t__law_refused : Tx K mg "_law_refused" s__law_refused := ⟨let ⟨fd, F⟩ := c.def_ 39 (d := dd__law_refused) rfl; ⟨_, fd, F, He.glo_ok X G (c.fact 35 (f := (fun K => (He.Fa.glo "_law_refused").ok K)) rfl)⟩⟩
  have t__law_right : Tx K mg "_law_right" s__law_right := ⟨let ⟨fd, F⟩ := c.def_ 40 (d := dd__law_right) rfl; ⟨_, fd, F, He.glo_ok X G (c.fact 36 (f := (fun K => (He.Fa.glo "_law_right").ok K)) rfl)⟩⟩
  have t_law : Tx K mg "law" s_law := ⟨let ⟨fd, F⟩ := c.def_ 41 (d := dd_law) rfl; ⟨_, fd, F, He.glo_ok X G (c.fact 37 (f := (fun K => (He.Fa.glo "law").ok K)) rfl)⟩⟩
  have m_int := He.free_ok X G (c.fact 38 (f := (fun K => (He.Fa.free "int").ok K)) rfl)
  have m_isinstance := He.free_ok X G (c.fact 39 (f := (fun K => (He.Fa.free "isinstance").ok K)) rfl)
  have m_bool := He.free_ok X G (c.fact 40 (f := (fun K => (He.Fa.free "bool").ok K)) rfl)
  have g_MOST_CELL := He.int_ok X G (c.fact 41 (f := (fun K => (He.Fa.int "MOST_CELL" 1000000000000000000000000000000).ok K)) rfl)
  have m_list := He.free_ok X G (c.fact 42 (f := (fun K => (He.Fa.free "list").ok K)) rfl)
  have m_len := He.free_ok X G (c.fact 43 (f := (fun K => (He.Fa.free "len").ok K)) rfl)
  have g_MOST_CELLS := He.int_ok X G (c.fact 44 (f := (fun K => (He.Fa.int "MOST_CELLS" 12).ok K)) rfl)
  have m_all := He.free_ok X G (c.fact 45 (f := (fun K => (He.Fa.free "all").ok K)) rfl)
  have g_MOST_LINES := He.int_ok X G (c.fact 46 (f := (fun K => (He.Fa.int "MOST_LINES" 60).ok K)) rfl)
  have e_InvalidTable : ExcF K mg "InvalidTable" (He.ga K "InvalidTable") := let ⟨a, b, d, e⟩ := He.exc_ok (c.fact 48 (f := (fun K => (He.Fa.exc "InvalidTable").ok K)) rfl); ⟨a, He.glo_ok X G (c.fact 47 (f := (fun K => (He.Fa.glo "InvalidTable").ok K)) rfl), b, d, e⟩
  have m_enumerate := He.free_ok X G (c.fact 49 (f := (fun K => (He.Fa.free "enumerate").ok K)) rfl)
  have m_range := He.free_ok X G (c.fact 50 (f := (fun K => (He.Fa.free "range").ok K)) rfl)
  have m_max := He.free_ok X G (c.fact 51 (f := (fun K => (He.Fa.free "max").ok K)) rfl)
  have m_zip := He.free_ok X G (c.fact 55 (f := (fun K => (He.Fa.free "zip").ok K)) rfl)
  have m_sum := He.free_ok X G (c.fact 56 (f := (fun K => (He.Fa.free "sum").ok K)) rfl)
  have m_sorted := He.free_ok X G (c.fact 57 (f := (fun K => (He.Fa.free "sorted").ok K)) rfl)
  have m_set := He.free_ok X G (c.fact 58 (f := (fun K => (He.Fa.free "set").ok K)) rfl)
  have e_InvalidNumber : ExcF K mg "InvalidNumber" (He.ga K "InvalidNumber") := let ⟨a, b, d, e⟩ := He.exc_ok (c.fact 60 (f := (fun K => (He.Fa.exc "InvalidNumber").ok K)) rfl); ⟨a, He.glo_ok X G (c.fact 59 (f := (fun K => (He.Fa.glo "InvalidNumber").ok K)) rfl), b, d, e⟩
  have m_min := He.free_ok X G (c.fact 61 (f := (fun K => (He.Fa.free "min").ok K)) rfl)
  have g_MOST_KINDS := He.int_ok X G (c.fact 62 (f := (fun K => (He.Fa.int "MOST_KINDS" 12).ok K)) rfl)
  have m_str := He.free_ok X G (c.fact 63 (f := (fun K => (He.Fa.free "str").ok K)) rfl)
  have h_Kind := He.glo_ok X G (c.fact 64 (f := (fun K => (He.Fa.glo "Kind").ok K)) rfl)
  have cv_NAMES : ∀ q ∈ ((conNAMES (He.ga K "Kind")) : List (Addr × D)), CValF K q.1 "NAMES" q.2 := by
    intro q hq
    simp only [conNAMES, List.mem_cons, List.not_mem_nil, or_false] at hq
    subst hq
    exact bCVT_ok (c.fact 65 (f := (bCVT "Kind" "NAMES" ["left", "right", "center"])) rfl)
  have g_LEFT := He.str_ok X G (c.fact 66 (f := (fun K => (He.Fa.str "LEFT" "left").ok K)) rfl)
  have e_InvalidStyle : ExcF K mg "InvalidStyle" (He.ga K "InvalidStyle") := let ⟨a, b, d, e⟩ := He.exc_ok (c.fact 68 (f := (fun K => (He.Fa.exc "InvalidStyle").ok K)) rfl); ⟨a, He.glo_ok X G (c.fact 67 (f := (fun K => (He.Fa.glo "InvalidStyle").ok K)) rfl), b, d, e⟩
  have cl_Style := He.cls_ok (c.fact 52 (f := (fun K => (He.Fa.cls "Style").ok K)) rfl)
  have na_Style_held_kinds := He.noat_ok (c.fact 69 (f := (fun K => (He.Fa.noat "Style" "held_kinds").ok K)) rfl)
  have na_Style_held_gap := He.noat_ok (c.fact 70 (f := (fun K => (He.Fa.noat "Style" "held_gap").ok K)) rfl)
  have na_Style_held_least := He.noat_ok (c.fact 71 (f := (fun K => (He.Fa.noat "Style" "held_least").ok K)) rfl)
  have m_abs := He.free_ok X G (c.fact 73 (f := (fun K => (He.Fa.free "abs").ok K)) rfl)
  have h_Style := He.glo_ok X G (c.fact 74 (f := (fun K => (He.Fa.glo "Style").ok K)) rfl)
  have xm_InvalidNumber : ∀ C ∈ ([(He.ga K "InvalidNumber")] : List Addr), PySem.W.exmOne K (.ref C) (.ref (He.ga K "InvalidNumber")) = some true := by
    intro q hq
    simp only [List.mem_cons, List.not_mem_nil, or_false] at hq
    subst hq
    exact bExm_ok (c.fact 77 (f := (bExm "InvalidNumber" "InvalidNumber")) rfl)
  have h_InvalidNumber := He.glo_ok X G (c.fact 59 (f := (fun K => (He.Fa.glo "InvalidNumber").ok K)) rfl)
  have all : ∀ base : Heap, CalG P wd K mg base "law" s_law 19 P_law sp_law := fun base => by
    have c_is_integer : CalG P wd K mg base "is_integer" s_is_integer 1 P_is_integer sp_is_integer := calG_ok t_is_integer (fun _ _ _ _ _ _ us hl => match us, hl with | [_, _, _], _ => rfl) sc_is_integer (len_is_integer) fun f cdv A outer s H E hG hr => let ⟨t, jb⟩ := d_is_integer hG hr m_int m_isinstance m_bool; ⟨t, _, jb, p_is_integer⟩
    have c_tabs_in : CalG P wd K mg base "tabs_in" s_tabs_in 1 P_tabs_in sp_tabs_in := calG_ok t_tabs_in (fun _ _ _ _ _ _ us hl => match us, hl with | [_], _ => rfl) sc_tabs_in (len_tabs_in) fun f cdv A outer s H E hG hr => let ⟨t, jb⟩ := d_tabs_in hG hr m_len; ⟨t, _, jb, p_tabs_in⟩
    have c_blocks_of_column : CalG P wd K mg base "blocks_of_column" s_blocks_of_column 1 P_blocks_of_column sp_blocks_of_column := calG_ok t_blocks_of_column (fun _ _ _ _ _ _ us hl => match us, hl with | [_, _], _ => rfl) sc_blocks_of_column (len_blocks_of_column) fun f cdv A outer s H E hG hr => let ⟨t, jb⟩ := d_blocks_of_column hG hr m_enumerate; ⟨t, _, jb, p_blocks_of_column⟩
    have c_greatest_in : CalG P wd K mg base "greatest_in" s_greatest_in 1 P_greatest_in sp_greatest_in := calG_ok t_greatest_in (fun _ _ _ _ _ _ us hl => match us, hl with | [_, _], _ => rfl) sc_greatest_in (len_greatest_in) fun f cdv A outer s H E hG hr => let ⟨t, jb⟩ := d_greatest_in hG hr m_max; ⟨t, _, jb, p_greatest_in⟩
    have c_bottom_of : CalG P wd K mg base "bottom_of" s_bottom_of 1 P_bottom_of sp_bottom_of := calG_ok t_bottom_of (fun _ _ _ _ _ _ us hl => match us, hl with | [_], _ => rfl) sc_bottom_of (len_bottom_of) fun f cdv A outer s H E hG hr => let ⟨t, jb⟩ := d_bottom_of hG hr m_sum; ⟨t, _, jb, p_bottom_of⟩
    have c_block_steps : CalG P wd K mg base "block_steps" s_block_steps 1 P_block_steps sp_block_steps := calG_ok t_block_steps (fun _ _ _ _ _ _ us hl => match us, hl with | [_, _], _ => rfl) sc_block_steps (len_block_steps) fun f cdv A outer s H E hG hr => let ⟨t, jb⟩ := d_block_steps hG hr m_sorted m_set m_zip m_len; ⟨t, _, jb, p_block_steps⟩
    have c_merged_steps : CalG P wd K mg base "merged_steps" s_merged_steps 1 P_merged_steps sp_merged_steps := calG_ok t_merged_steps (fun _ _ _ _ _ _ us hl => match us, hl with | [_, _], _ => rfl) sc_merged_steps (len_merged_steps) fun f cdv A outer s H E hG hr => let ⟨t, jb⟩ := d_merged_steps hG hr m_sorted; ⟨t, _, jb, p_merged_steps⟩
    have c_run_end : CalG P wd K mg base "run_end" s_run_end 1 P_run_end sp_run_end := calG_ok t_run_end (fun _ _ _ _ _ _ us hl => match us, hl with | [_, _, _], _ => rfl) sc_run_end (len_run_end) fun f cdv A outer s H E hG hr => let ⟨t, jb⟩ := d_run_end hG hr m_len; ⟨t, _, jb, p_run_end⟩
    have c_are_kinds : CalG P wd K mg base "are_kinds" s_are_kinds 1 P_are_kinds sp_are_kinds := calG_ok t_are_kinds (fun _ _ _ _ _ _ us hl => match us, hl with | [_], _ => rfl) sc_are_kinds (len_are_kinds) fun f cdv A outer s H E hG hr => let ⟨t, jb⟩ := d_are_kinds hG hr m_list m_isinstance m_len g_MOST_KINDS m_str h_Kind cv_NAMES m_all; ⟨t, _, jb, p_are_kinds (He.ga K "Kind")⟩
    have k_Style_gap_1 : FnK P wd K mg base 1 ((fun K => He5.wf K (He.ga K "Style") "property" "gap") K) ([] : List Str) (pkP 1 [0] [] (sp_Style_gap (He.ga K "Style"))) := (let ⟨fd, F⟩ := c.def_ 27 (d := dd_Style_gap) rfl; fnK_plain (ms := []) (md := []) (ks := ([] : List Str)) (perm := [0]) (n := 1) F sc_Style_gap (fun q hq => nomatch hq) (fun _ => .nil) (len_Style_gap) (fun D kV doc pm an cdv ct us mv ws _ l1 l2 l3 => match us, mv, ws, l1, l2, l3 with | [_], [], [], _, _, _ => rfl) fun cdv A outer s H E hG hr => let ⟨t, jb⟩ := d_Style_gap hG hr cl_Style na_Style_held_gap; ⟨t, _, jb, p_Style_gap (He.ga K "Style")⟩)
    have pr_Style_gap : PropK P wd K mg base (He.ga K "Style") "gap" 1 (pkP 1 [0] [] (sp_Style_gap (He.ga K "Style"))) := ⟨He.cls_ok (c.fact 52 (f := (fun K => (He.Fa.cls "Style").ok K)) rfl), _, _, bProp_ok (c.fact 54 (f := (bProp "Style" "gap")) rfl), k_Style_gap_1⟩
    have k_Style_least_1 : FnK P wd K mg base 1 ((fun K => He5.wf K (He.ga K "Style") "property" "least") K) ([] : List Str) (pkP 1 [0] [] (sp_Style_least (He.ga K "Style"))) := (let ⟨fd, F⟩ := c.def_ 28 (d := dd_Style_least) rfl; fnK_plain (ms := []) (md := []) (ks := ([] : List Str)) (perm := [0]) (n := 1) F sc_Style_least (fun q hq => nomatch hq) (fun _ => .nil) (len_Style_least) (fun D kV doc pm an cdv ct us mv ws _ l1 l2 l3 => match us, mv, ws, l1, l2, l3 with | [_], [], [], _, _, _ => rfl) fun cdv A outer s H E hG hr => let ⟨t, jb⟩ := d_Style_least hG hr cl_Style na_Style_held_least; ⟨t, _, jb, p_Style_least (He.ga K "Style")⟩)
    have pr_Style_least : PropK P wd K mg base (He.ga K "Style") "least" 1 (pkP 1 [0] [] (sp_Style_least (He.ga K "Style"))) := ⟨He.cls_ok (c.fact 52 (f := (fun K => (He.Fa.cls "Style").ok K)) rfl), _, _, bProp_ok (c.fact 53 (f := (bProp "Style" "least")) rfl), k_Style_least_1⟩
    have c__law_source : CalG P wd K mg base "_law_source" s__law_source 1 P__law_source sp__law_source := calG_ok t__law_source (fun _ _ _ _ _ _ us hl => match us, hl with | [_], _ => rfl) sc__law_source (len__law_source) fun f cdv A outer s H E hG hr => let ⟨t, jb⟩ := d__law_source hG hr m_abs; ⟨t, _, jb, p__law_source⟩
    have c__law_pick : CalG P wd K mg base "_law_pick" s__law_pick 1 P__law_pick sp__law_pick := calG_ok t__law_pick (fun _ _ _ _ _ _ us hl => match us, hl with | [_, _], _ => rfl) sc__law_pick (len__law_pick) fun f cdv A outer s H E hG hr => let ⟨t, jb⟩ := d__law_pick hG hr ; ⟨t, _, jb, p__law_pick⟩
    have c__law_span : CalG P wd K mg base "_law_span" s__law_span 1 P__law_span sp__law_span := calG_ok t__law_span (fun _ _ _ _ _ _ us hl => match us, hl with | [_, _, _, _], _ => rfl) sc__law_span (len__law_span) fun f cdv A outer s H E hG hr => let ⟨t, jb⟩ := d__law_span hG hr m_len m_max; ⟨t, _, jb, p__law_span⟩
    have c__law_grown : CalG P wd K mg base "_law_grown" s__law_grown 1 P__law_grown sp__law_grown := calG_ok t__law_grown (fun _ _ _ _ _ _ us hl => match us, hl with | [_, _, _], _ => rfl) sc__law_grown (len__law_grown) fun f cdv A outer s H E hG hr => let ⟨t, jb⟩ := d__law_grown hG hr m_range; ⟨t, _, jb, p__law_grown⟩
    have c__law_sum : CalG P wd K mg base "_law_sum" s__law_sum 1 P__law_sum sp__law_sum := calG_ok t__law_sum (fun _ _ _ _ _ _ us hl => match us, hl with | [_, _], _ => rfl) sc__law_sum (len__law_sum) fun f cdv A outer s H E hG hr => let ⟨t, jb⟩ := d__law_sum hG hr m_max m_sum; ⟨t, _, jb, p__law_sum⟩
    have c_is_cell : CalG P wd K mg base "is_cell" s_is_cell 2 P_is_cell sp_is_cell := calG_ok t_is_cell (fun _ _ _ _ _ _ us hl => match us, hl with | [_], _ => rfl) sc_is_cell (len_is_cell) fun f cdv A outer s H E hG hr => let ⟨t, jb⟩ := d_is_cell hG hr c_is_integer g_MOST_CELL; ⟨t, _, jb, p_is_cell⟩
    have c_blocks_by_tabs : CalG P wd K mg base "blocks_by_tabs" s_blocks_by_tabs 2 P_blocks_by_tabs sp_blocks_by_tabs := calG_ok t_blocks_by_tabs (fun _ _ _ _ _ _ us hl => match us, hl with | [_], _ => rfl) sc_blocks_by_tabs (len_blocks_by_tabs) fun f cdv A outer s H E hG hr => let ⟨t, jb⟩ := d_blocks_by_tabs hG hr g_MOST_CELLS m_range c_blocks_of_column; ⟨t, _, jb, p_blocks_by_tabs⟩
    have c_summed_curve : CalG P wd K mg base "summed_curve" s_summed_curve 2 P_summed_curve sp_summed_curve := calG_ok t_summed_curve (fun _ _ _ _ _ _ us hl => match us, hl with | [_], _ => rfl) sc_summed_curve (len_summed_curve) fun f cdv A outer s H E hG hr => let ⟨t, jb⟩ := d_summed_curve hG hr c_bottom_of m_max m_sorted m_zip c_merged_steps; ⟨t, _, jb, p_summed_curve⟩
    have c__law_look : CalG P wd K mg base "_law_look" s__law_look 2 P__law_look sp__law_look := calG_ok t__law_look (fun _ _ _ _ _ _ us hl => match us, hl with | [_, _], _ => rfl) sc__law_look (len__law_look) fun f cdv A outer s H E hG hr => let ⟨t, jb⟩ := d__law_look hG hr c__law_pick; ⟨t, _, jb, p__law_look⟩
    have c__law_grid : CalG P wd K mg base "_law_grid" s__law_grid 2 P__law_grid sp__law_grid := calG_ok t__law_grid (fun _ _ _ _ _ _ us hl => match us, hl with | [_, _, _, _], _ => rfl) sc__law_grid (len__law_grid) fun f cdv A outer s H E hG hr => let ⟨t, jb⟩ := d__law_grid hG hr c__law_pick m_range m_max; ⟨t, _, jb, p__law_grid⟩
    have c__law_ends : CalG P wd K mg base "_law_ends" s__law_ends 2 P__law_ends sp__law_ends := calG_ok t__law_ends (fun _ _ _ _ _ _ us hl => match us, hl with | [_, _], _ => rfl) sc__law_ends (len__law_ends) fun f cdv A outer s H E hG hr => let ⟨t, jb⟩ := d__law_ends hG hr m_enumerate m_len m_range c__law_span m_sum; ⟨t, _, jb, p__law_ends⟩
    have c__law_sizes : CalG P wd K mg base "_law_sizes" s__law_sizes 2 P__law_sizes sp__law_sizes := calG_ok t__law_sizes (fun _ _ _ _ _ _ us hl => match us, hl with | [_, _, _], _ => rfl) sc__law_sizes (len__law_sizes) fun f cdv A outer s H E hG hr => let ⟨t, jb⟩ := d__law_sizes hG hr m_len m_max c__law_pick m_sum m_min; ⟨t, _, jb, p__law_sizes⟩
    have c_is_line : CalG P wd K mg base "is_line" s_is_line 3 P_is_line sp_is_line := calG_ok t_is_line (fun _ _ _ _ _ _ us hl => match us, hl with | [_], _ => rfl) sc_is_line (len_is_line) fun f cdv A outer s H E hG hr => let ⟨t, jb⟩ := d_is_line hG hr m_list m_isinstance m_len g_MOST_CELLS c_is_cell m_all; ⟨t, _, jb, p_is_line⟩
    have c_blocks_in : CalG P wd K mg base "blocks_in" s_blocks_in 3 P_blocks_in sp_blocks_in := calG_ok t_blocks_in (fun _ _ _ _ _ _ us hl => match us, hl with | [_], _ => rfl) sc_blocks_in (len_blocks_in) fun f cdv A outer s H E hG hr => let ⟨t, jb⟩ := d_blocks_in hG hr c_blocks_by_tabs c_tabs_in; ⟨t, _, jb, p_blocks_in⟩
    have c_room_of : CalG P wd K mg base "room_of" s_room_of 3 P_room_of (sp_room_of (He.ga K "Style")) := calG_ok t_room_of (fun _ _ _ _ _ _ us hl => match us, hl with | [_, _, _], _ => rfl) sc_room_of (len_room_of) fun f cdv A outer s H E hG hr => let ⟨t, jb⟩ := d_room_of hG hr c_greatest_in pr_Style_least m_max; ⟨t, _, jb, p_room_of (He.ga K "Style")⟩
    have k_Style___init___s1_gap_least : FnK P wd K mg base 3 ((fun K => He.ma K (He.ga K "Style") "__init__") K) (["gap", "least"] : List Str) (pkS true 1 [0, 1, 2] [] (sp_Style___init__ (He.ga K "Style"))) := (let ⟨fd, F⟩ := c.def_ 25 (d := dd_Style___init__) rfl; fnK_star (ps := P0_Style___init__) (pv := "kinds") (a := 1) (b := true) (ms := []) (md := []) (ks := (["gap", "least"] : List Str)) (perm := [0, 1, 2]) F sc_Style___init__ (fun q hq => nomatch hq) (fun _ => .nil) (len_Style___init__) (fun D kV doc pm an cdv ct us rest mv ws _ hb l1 l2 l3 => match us, rest, mv, ws, l1, l2, l3, hb with | [_], [], [], [_, _], _, _, _, _ => rfl | [_], _ :: _, [], [_, _], _, _, _, _ => rfl) fun cdv A outer s H E hG hr => let ⟨t, jb⟩ := d_Style___init__ hG hr m_len m_list g_LEFT c_are_kinds c_is_cell e_InvalidStyle cl_Style na_Style_held_kinds na_Style_held_gap na_Style_held_least; ⟨t, _, jb, p_Style___init__ (He.ga K "InvalidStyle") (He.ga K "Style")⟩)
    have mk_Style___init___s1_gap_least : CtorK P wd K mg base (He.ga K "Style") 3 (["gap", "least"] : List Str) (pkS true 1 [0, 1, 2] [] (sp_Style___init__ (He.ga K "Style"))) := ⟨_, He.mkr_ok (c.fact 72 (f := (fun K => (He.Fa.mkr "Style").ok K)) rfl), k_Style___init___s1_gap_least⟩
    have c_is_table : CalG P wd K mg base "is_table" s_is_table 4 P_is_table sp_is_table := calG_ok t_is_table (fun _ _ _ _ _ _ us hl => match us, hl with | [_], _ => rfl) sc_is_table (len_is_table) fun f cdv A outer s H E hG hr => let ⟨t, jb⟩ := d_is_table hG hr m_list m_isinstance m_len g_MOST_LINES c_is_line m_all; ⟨t, _, jb, p_is_table⟩
    have c_rooms_in : CalG P wd K mg base "rooms_in" s_rooms_in 4 P_rooms_in (sp_rooms_in (He.ga K "Style")) := calG_ok t_rooms_in (fun _ _ _ _ _ _ us hl => match us, hl with | [_, _], _ => rfl) sc_rooms_in (len_rooms_in) fun f cdv A outer s H E hG hr => let ⟨t, jb⟩ := d_rooms_in hG hr c_blocks_in c_room_of m_range; ⟨t, _, jb, p_rooms_in (He.ga K "Style")⟩
    have c_need_table : CalG P wd K mg base "need_table" s_need_table 5 P_need_table sp_need_table := calG_ok t_need_table (fun _ _ _ _ _ _ us hl => match us, hl with | [_], _ => rfl) sc_need_table (len_need_table) fun f cdv A outer s H E hG hr => let ⟨t, jb⟩ := d_need_table hG hr c_is_table e_InvalidTable; ⟨t, _, jb, p_need_table (He.ga K "InvalidTable")⟩
    have c_stops_in : CalG P wd K mg base "stops_in" s_stops_in 5 P_stops_in (sp_stops_in (He.ga K "Style")) := calG_ok t_stops_in (fun _ _ _ _ _ _ us hl => match us, hl with | [_, _], _ => rfl) sc_stops_in (len_stops_in) fun f cdv A outer s H E hG hr => let ⟨t, jb⟩ := d_stops_in hG hr c_rooms_in pr_Style_gap; ⟨t, _, jb, p_stops_in (He.ga K "Style")⟩
    have k_Style_of_4 : FnK P wd K mg base 5 ((fun K => He5.wf K (He.ga K "Style") "classmethod" "of") K) ([] : List Str) (pkP 4 [0, 1, 2, 3] [] (sp_Style_of (He.ga K "Style"))) := (let ⟨fd, F⟩ := c.def_ 26 (d := dd_Style_of) rfl; fnK_plain (ms := []) (md := []) (ks := ([] : List Str)) (perm := [0, 1, 2, 3]) (n := 4) F sc_Style_of (fun q hq => nomatch hq) (fun _ => .nil) (len_Style_of) (fun D kV doc pm an cdv ct us mv ws _ l1 l2 l3 => match us, mv, ws, l1, l2, l3 with | [_, _, _, _], [], [], _, _, _ => rfl) fun cdv A outer s H E hG hr => let ⟨t, jb⟩ := d_Style_of hG hr c_are_kinds e_InvalidStyle mk_Style___init___s1_gap_least; ⟨t, _, jb, p_Style_of (He.ga K "InvalidStyle") (He.ga K "Style")⟩)
    have cm_Style_Style_of_4 : CMetK P wd K mg base (He.ga K "Style") "of" 5 ([] : List Str) (pkP 4 [0, 1, 2, 3] [] (sp_Style_of (He.ga K "Style"))) := ⟨_, _, _, bCRd_ok (c.fact 75 (f := (bCRd "Style")) rfl), bCMet_ok (c.fact 76 (f := (bCMet "Style" "of")) rfl), k_Style_of_4⟩
    have c_ends_in : CalG P wd K mg base "ends_in" s_ends_in 6 P_ends_in (sp_ends_in (He.ga K "Style")) := calG_ok t_ends_in (fun _ _ _ _ _ _ us hl => match us, hl with | [_, _], _ => rfl) sc_ends_in (len_ends_in) fun f cdv A outer s H E hG hr => let ⟨t, jb⟩ := d_ends_in hG hr c_stops_in m_zip; ⟨t, _, jb, p_ends_in (He.ga K "Style")⟩
    have c__law_named : CalG P wd K mg base "_law_named" s__law_named 6 P__law_named (sp__law_named (He.ga K "Style")) := calG_ok t__law_named (fun _ _ _ _ _ _ us hl => match us, hl with | [_, _], _ => rfl) sc__law_named (len__law_named) fun f cdv A outer s H E hG hr => let ⟨t, jb⟩ := d__law_named hG hr c__law_pick h_Style cm_Style_Style_of_4; ⟨t, _, jb, p__law_named (He.ga K "Style")⟩
    have r_lines_curve : ∀ m : Nat, CalG P wd K mg base "lines_curve" s_lines_curve (2 + m) P_lines_curve (sp_lines_curve m) := calG_rec (sp := fun m => (sp_lines_curve m)) t_lines_curve (fun _ _ _ _ _ _ us hl => match us, hl with | [_, _, _, _, _, _], _ => rfl) sc_lines_curve (fun m => len_lines_curve m) no_lines_curve fun m c_rec f cdv A outer s H E hG hr => let ⟨t, jb⟩ := d_lines_curve hG hr m_len c_run_end c_rec c_block_steps c_merged_steps c_summed_curve; ⟨t, _, jb, p_lines_curve m⟩
    have c_lines_curve := r_lines_curve 12
    have c_page_curve : CalG P wd K mg base "page_curve" s_page_curve 15 P_page_curve (sp_page_curve (He.ga K "Style")) := calG_ok t_page_curve (fun _ _ _ _ _ _ us hl => match us, hl with | [_, _], _ => rfl) sc_page_curve (len_page_curve) fun f cdv A outer s H E hG hr => let ⟨t, jb⟩ := d_page_curve hG hr c_lines_curve m_len c_ends_in pr_Style_least; ⟨t, _, jb, p_page_curve (He.ga K "Style")⟩
    have c_narrowest : CalG P wd K mg base "narrowest" s_narrowest 16 P_narrowest (sp_narrowest (He.ga K "Style")) := calG_ok t_narrowest (fun _ _ _ _ _ _ us hl => match us, hl with | [_, _], _ => rfl) sc_narrowest (len_narrowest) fun f cdv A outer s H E hG hr => let ⟨t, jb⟩ := d_narrowest hG hr c_need_table c_bottom_of c_page_curve; ⟨t, _, jb, p_narrowest (He.ga K "Style")⟩
    have c_slopes : CalG P wd K mg base "slopes" s_slopes 16 P_slopes (sp_slopes (He.ga K "Style")) := calG_ok t_slopes (fun _ _ _ _ _ _ us hl => match us, hl with | [_, _], _ => rfl) sc_slopes (len_slopes) fun f cdv A outer s H E hG hr => let ⟨t, jb⟩ := d_slopes hG hr c_need_table c_page_curve; ⟨t, _, jb, p_slopes (He.ga K "Style")⟩
    have c_width_for : CalG P wd K mg base "width_for" s_width_for 16 P_width_for (sp_width_for (He.ga K "Style") (He.ga K "InvalidNumber")) := calG_ok t_width_for (fun _ _ _ _ _ _ us hl => match us, hl with | [_, _, _], _ => rfl) sc_width_for (len_width_for) fun f cdv A outer s H E hG hr => let ⟨t, jb⟩ := d_width_for hG hr c_need_table m_bool m_isinstance e_InvalidNumber c_page_curve m_min; ⟨t, _, jb, p_width_for (He.ga K "InvalidNumber") (He.ga K "Style")⟩
    have c__law_refused : CalG P wd K mg base "_law_refused" s__law_refused 17 P__law_refused (sp__law_refused (He.ga K "Style") (He.ga K "InvalidNumber")) := calG_ok t__law_refused (fun _ _ _ _ _ _ us hl => match us, hl with | [_, _, _], _ => rfl) sc__law_refused (len__law_refused) fun f cdv A outer s H E hG hr => let ⟨t, jb⟩ := d__law_refused hG hr c_width_for xm_InvalidNumber h_InvalidNumber; ⟨t, _, jb, p__law_refused (He.ga K "InvalidNumber") (He.ga K "Style")⟩
    have c__law_right : CalG P wd K mg base "_law_right" s__law_right 18 P__law_right sp__law_right := calG_ok t__law_right (fun _ _ _ _ _ _ us hl => match us, hl with | [_, _, _], _ => rfl) sc__law_right (len__law_right) fun f cdv A outer s H E hG hr => let ⟨t, jb⟩ := d__law_right hG hr c__law_named c__law_ends m_max c_narrowest c_slopes m_zip c__law_sum c__law_pick m_sorted c_width_for c__law_refused; ⟨t, _, jb, p__law_right (He.ga K "Style") (He.ga K "InvalidNumber")⟩
    have c_law : CalG P wd K mg base "law" s_law 19 P_law sp_law := calG_ok t_law (fun _ _ _ _ _ _ us hl => match us, hl with | [_], _ => rfl) sc_law (len_law) fun f cdv A outer s H E hG hr => let ⟨t, jb⟩ := d_law hG hr c__law_source m_len m_min m_range c__law_pick c__law_grid c__law_look c__law_right c__law_grown c__law_sizes; ⟨t, _, jb, p_law⟩
    exact c_law
  obtain ⟨fd, F⟩ := c.def_ 41 (d := dd_law) rfl
  have e := hfa.symm.trans (He.glo_ok X G (c.fact 37 (f := (fun K => (He.Fa.glo "law").ok K)) rfl))
  cases e
  have b := FunD.bindsA (ps := ["_law_script"]) F fun _ _ _ _ _ _ us hl => match us, hl with | [_], _ => rfl
  refine ⟨fd, fun s v => b s [v] rfl, fun base _ _ => ?_⟩
  obtain ⟨f2, fd2, F2, hm, FS, _⟩ := (all base).ex
  have e2 := hfa.symm.trans hm
  cases e2
  have ed : fd2 = fd := fun_one FS F
  rw [← ed]
  exact F2
end DL
open PySem PySem.W PySem.Calls PyProof.Rows
theorem PySem.Challenge.cw_runtabs_k26_widths_for_letters_holds : PySem.Challenge.rw_runtabs_k26_widths_for_letters.Holds := by
  w_on; o_law
  refine HandSHeadRun.head_any (r := OpenLaw.row PySem.Challenge.rw_runtabs_k26_widths_for_letters) (q := view (OpenLaw.row PySem.Challenge.rw_runtabs_k26_widths_for_letters).prog [57]) (H := DL.hkL) (ob := DL.obL) (M := 8000) (loose := DL.othersL) (d := HandSHeadRun.topDef (OpenLaw.row PySem.Challenge.rw_runtabs_k26_widths_for_letters).prog 57) (kwd := []) DL.obL_eq
    (by kernel_rfl) (fun s => by kernel_rfl) DL.runL (by kernel_rfl) (by kernel_rfl) (by kernel_rfl) (by rfl) (by first | assumption | decide +kernel) (by decide +kernel) ⟨rfl, rfl, rfl, rfl, rfl, by decide +kernel⟩ ?hw ?hc
  case hw => w_witness2
  case hc =>
    refine DL.walk_end (l := PySem.Challenge.rw_runtabs_k26_widths_for_letters) (n := 63) (k := 19) (x := "_law_script") rfl (by decide) (by kernel_rfl) ⟨rfl, by decide, by decide⟩ ?F
    intro w mg fa h Y G hmg0
    obtain ⟨K, KX, c⟩ := Y
    have hmg : mg ("law" : PySem.Str) = some (.ref fa) := by
      have e : (HandSHeadRun.topDef (OpenLaw.row PySem.Challenge.rw_runtabs_k26_widths_for_letters).prog 57).name = ("law" : PySem.Str) := by kernel_rfl
      rw [← e]
      exact hmg0
    obtain ⟨fd, hb, hF⟩ := DL.factsL (P := (PySem.Challenge.rw_runtabs_k26_widths_for_letters).prog) (wd := w) KX G hmg c
    exact ⟨K, fd, DL.sp_law, KX, hb, fun ns hl hb => ⟨ns, rfl, fun _ => rfl⟩, hF⟩
