import PyProof.Rows.All
import Wide.All
import OpenK.AllK
import Wide.FinOn
import HandS.Base
import HandS.Call
import HandS.List
import HandS.Comp
import HandS.Ends
import HandS.Exc
import HandS.TryOnly
import HandS.ExcOwn
import HandS.WordsExc
import HandS.Words
import HandS.Wide
import HandS.Iter
import HandS.IsInst
import HandS.Text
import HandS.Flow
import HandS.HeadEnd
import HandS.EndBits
import HandS.HeadHook2
import HandS.Head2
import HandS.Defaults
import HandS.ExcIs
import HandS.Style
import HandS.More
import HandS.ClsMeth
import HandS.Property
import HandS.Star
import HandS.CallLocal
import HandS.HeadNt
import KE.KExcIs
import HandS.Strs
import HandS.ExcInit
import HandS.SetFor
import KE.IntTextLaws
import KE.IntTextText
import KE.KIntText
import HandS.DictSub
import HandS.RaiseMore
import PyProof.FactsLen
import HandS.Conv
import HandS.Dict
import HandS.SortRule
import HandS.Zip
import PyProof.EqAt
import PyProof.EqKinds
import HandS.TupLe
import PyProof.MinMaxWalk
import PyProof.WalkInts
import HandS.Deep
import HandS.DictComp
import KE.KDictList
import HandS.TupSets
import HandS.SetBool
import KE.KUnpack
import KE.KStateDown
import HandS.Head0
import HandS.Head1
import HandS.HeadHook1
import PySem.Challenge.RW_runtabs_k44_few_cells_by_all_widths
set_option Elab.async false
set_option linter.all false
set_option maxRecDepth 100000
set_option maxHeartbeats 0
namespace DL
open PySem PySem.Spec PyProof.Rows L2
/-- data: what a value stands for; own h: the list in the h-th cell -/
inductive D where
  | non | bl (b : Bool) | int (i : Int) | str (x : Str)
  | lst (ds : List D) | tup (ds : List D)
  | sq (ds : List D)
  | ins (C : Addr) (fs : List (Str × D))
  | dic (kvs : List (Key × D))
  | obj (a : Addr)
  | own (h : Nat)
  | ty (n : String)
  | exc (C : Addr) (fs : List (Str × D))
inductive Cell where
  | lst (ds : List D)
  | ins (C : Addr) (fs : List (Str × D))
  | dct (kvs : List (List Key × D))
  | dck (kvs : List (Key × D))
  | lck (o : Obj) (us : List (Key × V)) (kvs : List (Key × D))
  | gone
abbrev Gam := List (Option D)
abbrev Sto := List Cell
mutual
inductive Rp (K : PySem.W.Frag) (F : Hp) (al : List Addr) : V → D → Prop
  | non : Rp K F al .non .non
  | bl (b : Bool) : Rp K F al (.bl b) (.bl b)
  | int (i : Int) : Rp K F al (.int i) (.int i)
  | str (x : Str) : Rp K F al (.str x) (.str x)
  | lst {a : Addr} {xs : List V} {ds : List D} : F a = some (.lst xs) → RpA K F al xs ds → Rp K F al (.ref a) (.lst ds)
  | sq {a : Addr} {xs : List V} {ds : List D} : SqL K F a xs → RpA K F al xs ds → Rp K F al (.ref a) (.sq ds)
  | tup {a : Addr} {xs : List V} {ds : List D} : SqT K F a xs → RpA K F al xs ds → Rp K F al (.ref a) (.tup ds)
  | ins {a C dx : Addr} {vs : List (Str × V)} {fs : List (Str × D)} : F a = some (.ins C dx vs) → RpF K F al vs fs → Rp K F al (.ref a) (.ins C fs)
  | dic {a : Addr} {vs : List (Key × V)} {ds : List (Key × D)} : F a = some (.dK vs) → RpK K F al vs ds → Rp K F al (.ref a) (.dic ds)
  | obj (a : Addr) : Rp K F al (.ref a) (.obj a)
  | own {h : Nat} {a : Addr} : al[h]? = some a → Rp K F al (.ref a) (.own h)
  | ty (n : String) : Rp K F al (.ty n) (.ty n)
  | exc0 {a C : Addr} {oe : Obj} {u : HO} : F a = some (.frz oe u) → oe.cls = .ref C → (∃ vs, oe.data = .fields vs) → oe.dict = none → Rp K F al (.ref a) (.exc C [])
  | excD {a C dx : Addr} {oe : Obj} {u : HO} {vs : List (Str × V)} {fs : List (Str × D)} : F a = some (.frz oe u) → oe.cls = .ref C → (∃ ws, oe.data = .fields ws) → oe.dict = some dx → F dx = some (.xd vs) → RpF K F al vs fs → Rp K F al (.ref a) (.exc C fs)
inductive RpA (K : PySem.W.Frag) (F : Hp) (al : List Addr) : List V → List D → Prop
  | nil : RpA K F al [] []
  | cons {v : V} {vs : List V} {d : D} {ds : List D} : Rp K F al v d → RpA K F al vs ds → RpA K F al (v :: vs) (d :: ds)
inductive RpF (K : PySem.W.Frag) (F : Hp) (al : List Addr) : List (Str × V) → List (Str × D) → Prop
  | nil : RpF K F al [] []
  | cons {n : Str} {v : V} {vs : List (Str × V)} {d : D} {ds : List (Str × D)} : Rp K F al v d → RpF K F al vs ds → RpF K F al ((n, v) :: vs) ((n, d) :: ds)
inductive RpK (K : PySem.W.Frag) (F : Hp) (al : List Addr) : List (Key × V) → List (Key × D) → Prop
  | nil : RpK K F al [] []
  | cons {n : Key} {v : V} {vs : List (Key × V)} {d : D} {ds : List (Key × D)} : Rp K F al v d → RpK K F al vs ds → RpK K F al ((n, v) :: vs) ((n, d) :: ds)
end
theorem sameSql {K : PySem.W.Frag} {F F' : Hp} {a : Addr} {xs : List V} (e : ∀ b o, F b = some o → F' b = some o) (h : SqL K F a xs) : SqL K F' a xs := by
  rcases h with (h | ⟨o, h⟩) | h
  · exact .inl (.inl (e _ _ h))
  · exact .inl (.inr ⟨o, e _ _ h⟩)
  · exact .inr h
theorem sameSqt {K : PySem.W.Frag} {F F' : Hp} {a : Addr} {xs : List V} (e : ∀ b o, F b = some o → F' b = some o) (h : SqT K F a xs) : SqT K F' a xs := by
  rcases h with (h | ⟨o, h⟩) | h
  · exact .inl (.inl (e _ _ h))
  · exact .inl (.inr ⟨o, e _ _ h⟩)
  · exact .inr h
section
variable {K : PySem.W.Frag} {F F' : Hp} {al al' : List Addr}
mutual
theorem Rp.mono (e : ∀ b o, F b = some o → F' b = some o) (ea : ∀ (h : Nat) (a : Addr), al[h]? = some a → al'[h]? = some a) : ∀ (d : D) (v : V), Rp K F al v d → Rp K F' al' v d
  | .non, _, h => by cases h; exact .non
  | .bl _, _, h => by cases h; exact .bl _
  | .int _, _, h => by cases h; exact .int _
  | .str _, _, h => by cases h; exact .str _
  | .lst ds, _, h => by
    cases h with
    | lst h1 h2 => exact .lst (e _ _ h1) (RpA.mono e ea ds _ h2)
  | .sq ds, _, h => by
    cases h with
    | sq h1 h2 => exact .sq (sameSql e h1) (RpA.mono e ea ds _ h2)
  | .tup ds, _, h => by
    cases h with
    | tup h1 h2 => exact .tup (sameSqt e h1) (RpA.mono e ea ds _ h2)
  | .ins C fs, _, h => by
    cases h with
    | ins h1 h2 => exact .ins (e _ _ h1) (RpF.mono e ea fs _ h2)
  | .dic fs, _, h => by
    cases h with
    | dic h1 h2 => exact .dic (e _ _ h1) (RpK.mono e ea fs _ h2)
  | .obj _, _, h => by cases h; exact .obj _
  | .own _, _, h => by
    cases h with
    | own h1 => exact .own (ea _ _ h1)
  | .ty _, _, h => by cases h; exact .ty _
  | .exc C fs, _, h => by
    cases h with
    | exc0 h1 h2 h0 h3 => exact .exc0 (e _ _ h1) h2 h0 h3
    | excD h1 h2 h0 h3 h4 h5 => exact .excD (e _ _ h1) h2 h0 h3 (e _ _ h4) (RpF.mono e ea fs _ h5)
theorem RpA.mono (e : ∀ b o, F b = some o → F' b = some o) (ea : ∀ (h : Nat) (a : Addr), al[h]? = some a → al'[h]? = some a) : ∀ (ds : List D) (vs : List V), RpA K F al vs ds → RpA K F' al' vs ds
  | [], _, h => by cases h; exact .nil
  | d :: ds, _, h => by
    cases h with
    | cons h1 h2 => exact .cons (Rp.mono e ea d _ h1) (RpA.mono e ea ds _ h2)
theorem RpF.mono (e : ∀ b o, F b = some o → F' b = some o) (ea : ∀ (h : Nat) (a : Addr), al[h]? = some a → al'[h]? = some a) : ∀ (ds : List (Str × D)) (vs : List (Str × V)), RpF K F al vs ds → RpF K F' al' vs ds
  | [], _, h => by cases h; exact .nil
  | (n, d) :: ds, _, h => by
    cases h with
    | cons h1 h2 => exact .cons (Rp.mono e ea d _ h1) (RpF.mono e ea ds _ h2)
theorem RpK.mono (e : ∀ b o, F b = some o → F' b = some o) (ea : ∀ (h : Nat) (a : Addr), al[h]? = some a → al'[h]? = some a) : ∀ (ds : List (Key × D)) (vs : List (Key × V)), RpK K F al vs ds → RpK K F' al' vs ds
  | [], _, h => by cases h; exact .nil
  | (n, d) :: ds, _, h => by
    cases h with
    | cons h1 h2 => exact .cons (Rp.mono e ea d _ h1) (RpK.mono e ea ds _ h2)
end
theorem RpA.length : ∀ {vs : List V} {ds : List D}, RpA K F al vs ds → vs.length = ds.length
  | _, _, .nil => rfl
  | _, _, .cons _ t => by rw [List.length_cons, List.length_cons, RpA.length t]
theorem RpA.get : ∀ {vs : List V} {ds : List D} {i : Nat} {d : D}, RpA K F al vs ds → ds[i]? = some d → ∃ v, vs[i]? = some v ∧ Rp K F al v d
  | _, _, i, _, .nil, e => by simp at e
  | _, _, 0, _, .cons r _, e => by simp at e; subst e; exact ⟨_, rfl, r⟩
  | _, _, i + 1, d, .cons _ t, e => by
    obtain ⟨v, h1, h2⟩ := RpA.get (i := i) (d := d) t (by simpa using e)
    exact ⟨v, by simpa using h1, h2⟩
theorem RpA.getV : ∀ {vs : List V} {ds : List D} {i : Nat} {v : V}, RpA K F al vs ds → vs[i]? = some v → ∃ d, ds[i]? = some d ∧ Rp K F al v d
  | _, _, i, _, .nil, e => by simp at e
  | _, _, 0, _, .cons r _, e => by simp at e; subst e; exact ⟨_, rfl, r⟩
  | _, _, i + 1, d, .cons _ t, e => by
    obtain ⟨v, h1, h2⟩ := RpA.getV (i := i) (v := d) t (by simpa using e)
    exact ⟨v, by simpa using h1, h2⟩
theorem RpA.append : ∀ {vs ws : List V} {ds es : List D}, RpA K F al vs ds → RpA K F al ws es → RpA K F al (vs ++ ws) (ds ++ es)
  | _, _, _, _, .nil, s => s
  | _, _, _, _, .cons r t, s => .cons r (RpA.append t s)
theorem RpA.set {v : V} {d : D} (r : Rp K F al v d) : ∀ {vs : List V} {ds : List D} (i : Nat), RpA K F al vs ds → RpA K F al (vs.set i v) (ds.set i d)
  | _, _, _, .nil => .nil
  | _, _, 0, .cons _ t => .cons r t
  | _, _, i + 1, .cons q t => .cons q (RpA.set r i t)
theorem RpA.take : ∀ {vs : List V} {ds : List D} (n : Nat), RpA K F al vs ds → RpA K F al (vs.take n) (ds.take n)
  | _, _, 0, _ => .nil
  | _, _, _ + 1, .nil => .nil
  | _, _, n + 1, .cons r t => .cons r (RpA.take n t)
theorem RpA.drop : ∀ {vs : List V} {ds : List D} (n : Nat), RpA K F al vs ds → RpA K F al (vs.drop n) (ds.drop n)
  | _, _, 0, r => r
  | _, _, _ + 1, .nil => .nil
  | _, _, n + 1, .cons _ t => RpA.drop n t
theorem RpA.reverse : ∀ {vs : List V} {ds : List D}, RpA K F al vs ds → RpA K F al vs.reverse ds.reverse
  | _, _, .nil => .nil
  | _, _, .cons r t => by
    rw [List.reverse_cons, List.reverse_cons]
    exact (RpA.reverse t).append (.cons r .nil)
end
/-- where one stands: the frozen part, the cells' addresses, the whole -/
structure Hs where
  F : Hp
  al : List Addr
  H : Hp
abbrev Rv (K : PySem.W.Frag) (w : Hs) (v : V) (d : D) : Prop := Rp K w.F w.al v d
abbrev Ra (K : PySem.W.Frag) (w : Hs) (vs : List V) (ds : List D) : Prop := RpA K w.F w.al vs ds
/-- the entries of a dict whose keys are tuples -/
def RpT (K : PySem.W.Frag) (F : Hp) (al : List Addr) (us : List (List Key × V)) (ks : List (List Key × D)) : Prop :=
  us.length = ks.length ∧ ∀ (i : Nat) (k : List Key) (d : D), ks[i]? = some (k, d) → ∃ v, us[i]? = some (k, v) ∧ Rp K F al v d
theorem RpT.mono {K : PySem.W.Frag} {F F' : Hp} {al al' : List Addr} (e : ∀ b o, F b = some o → F' b = some o) (ea : ∀ (h : Nat) (a : Addr), al[h]? = some a → al'[h]? = some a) {us : List (List Key × V)} {ks : List (List Key × D)} (h : RpT K F al us ks) : RpT K F' al' us ks :=
  ⟨h.1, fun i k d q => let ⟨v, a, b⟩ := h.2 i k d q; ⟨v, a, Rp.mono e ea d v b⟩⟩
def CellOk (K : PySem.W.Frag) (w : Hs) (a : Addr) : Cell → Prop
  | .lst ds => w.F a = none ∧ ∃ xs, w.H a = some (.lst xs) ∧ Ra K w xs ds
  | .ins C fs => w.F a = none ∧ ∃ dx vs, w.H a = some (.ins C dx vs) ∧ RpF K w.F w.al vs fs
  | .dct ks => w.F a = none ∧ ∃ us, w.H a = some (.dT us) ∧ RpT K w.F w.al us ks
  | .dck ks => w.F a = none ∧ ∃ us, w.H a = some (.dK us) ∧ RpK K w.F w.al us ks
  | .lck o us ks => w.F a = none ∧ w.H a = some (.frz o (.dK us)) ∧ RpK K w.F w.al us ks
  | .gone => True
structure Good (K : PySem.W.Frag) (w : Hs) (S : Sto) : Prop where
  sub : ∀ a o, w.F a = some o → w.H a = some o
  nd : w.al.Nodup
  len : w.al.length = S.length
  cell : ∀ (h : Nat) (a : Addr) (c : Cell), w.al[h]? = some a → S[h]? = some c → CellOk K w a c
  dom : ∀ a ∈ w.al, w.H a ≠ none
structure Ext (w w' : Hs) : Prop where
  f : ∀ a o, w.F a = some o → w'.F a = some o
  al : ∃ β, w'.al = w.al ++ β ∧ ∀ b ∈ β, w.H b = none
  new : ∀ a o, w'.F a = some o → w.F a = some o ∨ w.H a = none ∨ a ∈ w.al
  kp : ∀ a o, w.H a = some o → a ∉ w.al → w'.H a = some o
  dm : ∀ a, w.H a ≠ none → w'.H a ≠ none
theorem Ext.refl (w : Hs) : Ext w w := ⟨fun _ _ h => h, ⟨[], by simp, by simp⟩, fun _ _ h => .inl h, fun _ _ h _ => h, fun _ h => h⟩
theorem Ext.alx {w w' : Hs} (e : Ext w w') : ∀ (h : Nat) (a : Addr), w.al[h]? = some a → w'.al[h]? = some a := fun h a q => by
  obtain ⟨β, eq, _⟩ := e.al
  rw [eq, List.getElem?_append_left (List.getElem?_eq_some_iff.mp q).1]
  exact q
theorem Ext.mem {w w' : Hs} (e : Ext w w') {a : Addr} (h : a ∈ w.al) : a ∈ w'.al := by
  obtain ⟨β, eq, _⟩ := e.al
  rw [eq]
  exact List.mem_append_left _ h
theorem Ext.old {w w' : Hs} (e : Ext w w') {a : Addr} (h : a ∈ w'.al) : a ∈ w.al ∨ w.H a = none := by
  obtain ⟨β, eq, hb⟩ := e.al
  rw [eq] at h
  rcases List.mem_append.mp h with z | z
  · exact .inl z
  · exact .inr (hb a z)
theorem Ext.fresh {w w' : Hs} (e : Ext w w') {a : Addr} (h : w'.H a = none) : w.H a = none := by
  cases q : w.H a with
  | none => rfl
  | some o => exact absurd h (e.dm a (by rw [q]; exact fun z => nomatch z))
theorem Ext.trans {w w1 w2 : Hs} (a : Ext w w1) (b : Ext w1 w2) : Ext w w2 where
  f := fun x o h => b.f x o (a.f x o h)
  al := by
    obtain ⟨β, e1, h1⟩ := a.al
    obtain ⟨γ, e2, h2⟩ := b.al
    refine ⟨β ++ γ, by rw [e2, e1, List.append_assoc], fun x hx => ?_⟩
    rcases List.mem_append.mp hx with z | z
    · exact h1 x z
    · exact a.fresh (h2 x z)
  new := fun x o h => by
    rcases b.new x o h with z | z | z
    · exact a.new x o z
    · exact .inr (.inl (a.fresh z))
    · rcases a.old z with y | y
      · exact .inr (.inr y)
      · exact .inr (.inl y)
  kp := fun x o h n => b.kp x o (a.kp x o h n) fun z => by
    rcases a.old z with y | y
    · exact n y
    · rw [h] at y; cases y
  dm := fun x h => b.dm x (a.dm x h)
theorem Ext.rp {K : PySem.W.Frag} {w w' : Hs} (e : Ext w w') {v : V} {d : D} (h : Rv K w v d) : Rv K w' v d := Rp.mono e.f e.alx d v h
theorem Ext.ra {K : PySem.W.Frag} {w w' : Hs} (e : Ext w w') {v : List V} {d : List D} (h : Ra K w v d) : Ra K w' v d := RpA.mono e.f e.alx d v h
/-- slots -/
def Slots (K : PySem.W.Frag) (w : Hs) (σ : L2.St) (Γ : Gam) : Prop := Γ.length = σ.length ∧ ∀ (i : Nat) (d : D), Γ[i]? = some (some d) → ∃ v, σ[i]? = some (some v) ∧ Rv K w v d
theorem Slots.ext {K : PySem.W.Frag} {w w' : Hs} {σ : L2.St} {Γ : Gam} (e : Ext w w') (h : Slots K w σ Γ) : Slots K w' σ Γ :=
  ⟨h.1, fun i d q => let ⟨v, a, b⟩ := h.2 i d q; ⟨v, a, e.rp b⟩⟩
theorem Slots.set {K : PySem.W.Frag} {w : Hs} {σ : L2.St} {Γ : Gam} {v : V} {d : D} (h : Slots K w σ Γ) (r : Rv K w v d) (i : Nat) : Slots K w (σ.set i (some v)) (Γ.set i (some d)) := by
  refine ⟨by rw [List.length_set, List.length_set]; exact h.1, fun j e q => ?_⟩
  by_cases hj : i = j
  · subst hj
    by_cases hl : i < Γ.length
    · rw [List.getElem?_set_self hl] at q
      cases q
      exact ⟨v, by rw [List.getElem?_set_self (by rw [← h.1]; exact hl)], r⟩
    · rw [List.getElem?_eq_none (by rw [List.length_set]; omega)] at q
      cases q
  · rw [List.getElem?_set_ne hj] at q
    obtain ⟨u, a, b⟩ := h.2 j e q
    exact ⟨u, by rw [List.getElem?_set_ne hj]; exact a, b⟩
/-- a slot forgotten -/
theorem Slots.unset {K : PySem.W.Frag} {w : Hs} {σ : L2.St} {Γ : Gam} (h : Slots K w σ Γ) (i : Nat) : Slots K w (σ.set i none) (Γ.set i none) := by
  refine ⟨by rw [List.length_set, List.length_set]; exact h.1, fun j e q => ?_⟩
  by_cases hj : i = j
  · subst hj
    by_cases hl : i < Γ.length
    · rw [List.getElem?_set_self hl] at q
      cases q
    · rw [List.getElem?_eq_none (by rw [List.length_set]; omega)] at q
      cases q
  · rw [List.getElem?_set_ne hj] at q
    obtain ⟨u, a, b⟩ := h.2 j e q
    exact ⟨u, by rw [List.getElem?_set_ne hj]; exact a, b⟩
def gwipe (Γ : Gam) : List Nat → Gam
  | [] => Γ
  | v :: vs => (gwipe Γ vs).set v none
theorem Slots.wipe {K : PySem.W.Frag} {w : Hs} {σ : L2.St} {Γ : Gam} (h : Slots K w σ Γ) : ∀ vs : List Nat, Slots K w (L2.wipe σ vs) (gwipe Γ vs)
  | [] => h
  | v :: vs => (Slots.wipe h vs).unset v
section
variable {K : PySem.W.Frag} {w : Hs} {S : Sto}
/-- a new frozen object -/
def Hs.frz (w : Hs) (p : Addr) (o : HO) : Hs := ⟨upd w.F p o, w.al, upd w.H p o⟩
theorem Good.notF (g : Good K w S) {p : Addr} (h : w.H p = none) : w.F p = none := by
  cases q : w.F p with
  | none => rfl
  | some o => rw [g.sub p o q] at h; cases h
theorem Good.notA (g : Good K w S) {p : Addr} (h : w.H p = none) : p ∉ w.al := fun z => g.dom p z h
theorem updF {H : Hp} {p : Addr} {o : HO} (h : H p = none) : ∀ a x, H a = some x → upd H p o a = some x := fun a x e => by
  rw [upd_ne (ne_of_none e h)]
  exact e
theorem Ext.frz (g : Good K w S) {p : Addr} (o : HO) (h : w.H p = none) : Ext w (w.frz p o) where
  f := updF (g.notF h)
  al := ⟨[], by simp [Hs.frz], by simp⟩
  new := fun a x e => by
    by_cases q : a = p
    · subst q; exact .inr (.inl h)
    · have e2 : upd w.F p o a = some x := e
      rw [upd_ne q] at e2
      exact .inl e2
  kp := fun a x e _ => updF h a x e
  dm := fun a e => by
    show upd w.H p o a ≠ none
    by_cases q : a = p
    · subst q; rw [upd_same]; exact fun z => nomatch z
    · rw [upd_ne q]; exact e
theorem cell_ext {w w' : Hs} (e : Ext w w') {a : Addr} {c : Cell} (hF : w.F a = none → w'.F a = none) (hH : ∀ o, w.H a = some o → w'.H a = some o) (h : CellOk K w a c) : CellOk K w' a c := by
  cases c with
  | gone => exact True.intro
  | lst ds =>
    obtain ⟨h1, xs, h2, h3⟩ := h
    exact ⟨hF h1, xs, hH _ h2, e.ra h3⟩
  | ins C fs =>
    obtain ⟨h1, dx, vs, h2, h3⟩ := h
    exact ⟨hF h1, dx, vs, hH _ h2, RpF.mono e.f e.alx fs vs h3⟩
  | dct ks =>
    obtain ⟨h1, us, h2, h3⟩ := h
    exact ⟨hF h1, us, hH _ h2, h3.mono e.f e.alx⟩
  | dck ks =>
    obtain ⟨h1, us, h2, h3⟩ := h
    exact ⟨hF h1, us, hH _ h2, RpK.mono e.f e.alx ks us h3⟩
  | lck o us ks =>
    obtain ⟨h1, h2, h3⟩ := h
    exact ⟨hF h1, hH _ h2, RpK.mono e.f e.alx ks us h3⟩
theorem Good.frz (g : Good K w S) {p : Addr} (o : HO) (h : w.H p = none) : Good K (w.frz p o) S := by
  have e := Ext.frz g o h
  refine ⟨fun a x q => ?_, g.nd, g.len, fun n a c q1 q2 => ?_, fun a q => e.dm a (g.dom a q)⟩
  · have q2 : upd w.F p o a = some x := q
    show upd w.H p o a = some x
    by_cases z : a = p
    · subst z; rw [upd_same] at q2 ⊢; exact q2
    · rw [upd_ne z] at q2 ⊢; exact g.sub a x q2
  · have hne : a ≠ p := fun z => g.dom a (List.mem_of_getElem? q1) (by rw [z]; exact h)
    exact cell_ext e (fun z => by show upd w.F p o a = none; rw [upd_ne hne]; exact z) (fun x z => updF h a x z) (g.cell n a c q1 q2)
/-- a new cell -/
def Hs.cel (w : Hs) (p : Addr) (o : HO) : Hs := ⟨w.F, w.al ++ [p], upd w.H p o⟩
theorem Ext.cel (g : Good K w S) {p : Addr} (o : HO) (h : w.H p = none) : Ext w (w.cel p o) where
  f := fun _ _ e => e
  al := ⟨[p], rfl, fun b hb => by rw [List.mem_singleton.mp hb]; exact h⟩
  new := fun a x e => .inl e
  kp := fun a x e _ => updF h a x e
  dm := fun a e => by
    show upd w.H p o a ≠ none
    by_cases q : a = p
    · subst q; rw [upd_same]; exact fun z => nomatch z
    · rw [upd_ne q]; exact e
/-- a new cell c at p in a world where new things stand beside it -/
theorem Good.cell' {w' : Hs} (g : Good K w S) {p : Addr} {c0 : Cell} (h : w.H p = none) (e : Ext w w') (hF : w'.F = w.F) (hal : w'.al = w.al ++ [p]) (hH : ∀ a x, w.H a = some x → w'.H a = some x) (hp : w'.H p ≠ none) (ok : CellOk K w' p c0) : Good K w' (S ++ [c0]) := by
  refine ⟨fun a x q => hH a x (g.sub a x (by rw [← hF]; exact q)), ?_, ?_, fun n a c q1 q2 => ?_, fun a q => ?_⟩
  · rw [hal, List.nodup_append]
    exact ⟨g.nd, by simp, fun a ha b hb => by rw [List.mem_singleton.mp hb]; exact fun z => g.notA h (z ▸ ha)⟩
  · rw [hal, List.length_append, List.length_append, g.len] <;> rfl
  · rw [hal] at q1
    by_cases hn : n < w.al.length
    · rw [List.getElem?_append_left hn] at q1
      rw [List.getElem?_append_left (by rw [← g.len]; exact hn)] at q2
      exact cell_ext e (fun z => by rw [hF]; exact z) (fun x z => hH a x z) (g.cell n a c q1 q2)
    · have hn2 : n = w.al.length := by
        have := (List.getElem?_eq_some_iff.mp q1).1
        rw [List.length_append] at this
        have h1 : [p].length = 1 := rfl
        omega
      subst hn2
      rw [List.getElem?_append_right (Nat.le_refl _), Nat.sub_self] at q1
      rw [List.getElem?_append_right (by rw [g.len]; exact Nat.le_refl _), g.len, Nat.sub_self] at q2
      have e1 : p = a := Option.some.inj q1
      have e2 : c0 = c := Option.some.inj q2
      subst e1; subst e2
      exact ok
  · rw [hal] at q
    rcases List.mem_append.mp q with z | z
    · exact e.dm a (g.dom a z)
    · rw [List.mem_singleton.mp z]
      exact hp
theorem upd_some {H : Hp} {p : Addr} {o : HO} : upd H p o p ≠ none := by
  rw [upd_same]; exact fun z => nomatch z
theorem Good.cel (g : Good K w S) {p : Addr} {xs : List V} {ds : List D} (h : w.H p = none) (r : Ra K w xs ds) : Good K (w.cel p (.lst xs)) (S ++ [.lst ds]) :=
  g.cell' h (Ext.cel g _ h) rfl rfl (fun a x q => updF h a x q) upd_some ⟨g.notF h, xs, upd_same, (Ext.cel g _ h).ra r⟩
/-- a new instance and its dict -/
def Hs.celI (w : Hs) (p dx C : Addr) : Hs := ⟨w.F, w.al ++ [p], upd (upd w.H dx (.own p)) p (.ins C dx [])⟩
theorem Ext.celI (g : Good K w S) {p dx C : Addr} (h : w.H p = none) (hd : w.H dx = none) : Ext w (w.celI p dx C) where
  f := fun _ _ e => e
  al := ⟨[p], rfl, fun b hb => by rw [List.mem_singleton.mp hb]; exact h⟩
  new := fun a x e => .inl e
  kp := fun a x e _ => by
    show upd (upd w.H dx (.own p)) p _ a = some x
    rw [upd_ne (ne_of_none e h), upd_ne (ne_of_none e hd)]; exact e
  dm := fun a e => by
    show upd (upd w.H dx (.own p)) p _ a ≠ none
    by_cases q : a = p
    · subst q; exact upd_some
    · rw [upd_ne q]
      by_cases q2 : a = dx
      · subst q2; exact upd_some
      · rw [upd_ne q2]; exact e
theorem Good.celI (g : Good K w S) {p dx C : Addr} (h : w.H p = none) (hd : w.H dx = none) : Good K (w.celI p dx C) (S ++ [.ins C []]) :=
  g.cell' h (Ext.celI g h hd) rfl rfl (fun a x e => by
    show upd (upd w.H dx (.own p)) p _ a = some x
    rw [upd_ne (ne_of_none e h), upd_ne (ne_of_none e hd)]; exact e) upd_some ⟨g.notF h, dx, [], upd_same, .nil⟩
/-- a cell is written -/
def Hs.wr (w : Hs) (p : Addr) (o : HO) : Hs := ⟨w.F, w.al, upd w.H p o⟩
theorem Ext.wr {p : Addr} (o : HO) (hp : p ∈ w.al) : Ext w (w.wr p o) where
  f := fun _ _ e => e
  al := ⟨[], by simp [Hs.wr], by simp⟩
  new := fun a x e => .inl e
  kp := fun a x e n => by
    show upd w.H p o a = some x
    rw [upd_ne (fun z => n (by rw [z]; exact hp))]; exact e
  dm := fun a e => by
    show upd w.H p o a ≠ none
    by_cases q : a = p
    · subst q; rw [upd_same]; exact fun z => nomatch z
    · rw [upd_ne q]; exact e
theorem CellOk.notF {a : Addr} {c : Cell} (h : CellOk K w a c) (hc : c ≠ .gone) : w.F a = none := by
  cases c with
  | gone => exact absurd rfl hc
  | lst _ => exact h.1
  | ins _ _ => exact h.1
  | dct _ => exact h.1
  | dck _ => exact h.1
  | lck _ _ _ => exact h.1
theorem Good.write (g : Good K w S) {h : Nat} {p : Addr} {c0 : Cell} {o : HO} (hp : w.al[h]? = some p) (hl : h < S.length) (hF : w.F p = none) (ok : CellOk K (w.wr p o) p c0) : Good K (w.wr p o) (S.set h c0) := by
  have hm : p ∈ w.al := List.mem_of_getElem? hp
  have e := Ext.wr o hm
  refine ⟨fun a x q => ?_, g.nd, by rw [List.length_set]; exact g.len, fun n a c q1 q2 => ?_, fun a q => e.dm a (g.dom a q)⟩
  · show upd w.H p o a = some x
    rw [upd_ne (ne_of_none q hF)]
    exact g.sub a x q
  · have q1 : w.al[n]? = some a := q1
    by_cases hn : h = n
    · subst hn
      rw [hp] at q1; cases q1
      rw [List.getElem?_set_self hl] at q2
      cases q2
      exact ok
    · rw [List.getElem?_set_ne hn] at q2
      have hne : a ≠ p := fun z => by
        subst z
        obtain ⟨l1, e1⟩ := List.getElem?_eq_some_iff.mp hp
        obtain ⟨l2, e2⟩ := List.getElem?_eq_some_iff.mp q1
        exact hn ((List.getElem_inj g.nd).mp (e1.trans e2.symm))
      exact cell_ext e (fun z => z) (fun x z => by show upd w.H p _ a = some x; rw [upd_ne hne]; exact z) (g.cell n a c q1 q2)
theorem Good.wr (g : Good K w S) {h : Nat} {p : Addr} {xs : List V} {es ds : List D} (hp : w.al[h]? = some p) (hc : S[h]? = some (.lst es)) (r : Ra K w xs ds) : Good K (w.wr p (.lst xs)) (S.set h (.lst ds)) :=
  have hF := (g.cell h p _ hp hc).1
  g.write hp (List.getElem?_eq_some_iff.mp hc).1 hF ⟨hF, xs, upd_same, r⟩
theorem Good.wrI (g : Good K w S) {h : Nat} {p C dx : Addr} {vs : List (Str × V)} {es fs : List (Str × D)} (hp : w.al[h]? = some p) (hc : S[h]? = some (.ins C es)) (r : RpF K w.F w.al vs fs) : Good K (w.wr p (.ins C dx vs)) (S.set h (.ins C fs)) :=
  have hF := (g.cell h p _ hp hc).1
  g.write hp (List.getElem?_eq_some_iff.mp hc).1 hF ⟨hF, dx, vs, upd_same, r⟩
/-- a cell is frozen -/
def Hs.fz (w : Hs) (p : Addr) (o : HO) : Hs := ⟨upd w.F p o, w.al, w.H⟩
theorem Ext.fz {p : Addr} {o : HO} (hp : p ∈ w.al) (hF : w.F p = none) : Ext w (w.fz p o) where
  f := updF hF
  al := ⟨[], by simp [Hs.fz], by simp⟩
  new := fun a x e => by
    by_cases q : a = p
    · subst q; exact .inr (.inr hp)
    · have e2 : upd w.F p o a = some x := e
      rw [upd_ne q] at e2
      exact .inl e2
  kp := fun a x e n => e
  dm := fun a e => e
theorem Good.fzC (g : Good K w S) {h : Nat} {p : Addr} {o : HO} {c0 : Cell} (hp : w.al[h]? = some p) (hc : S[h]? = some c0) (hng : c0 ≠ .gone) (ho : w.H p = some o) : Good K (w.fz p o) (S.set h .gone) := by
  have hm : p ∈ w.al := List.mem_of_getElem? hp
  have hF : w.F p = none := (g.cell h p _ hp hc).notF hng
  have e : Ext w (w.fz p o) := Ext.fz hm hF
  refine ⟨fun a x q => ?_, g.nd, by rw [List.length_set]; exact g.len, fun n a c q1 q2 => ?_, g.dom⟩
  · have q2 : upd w.F p o a = some x := q
    show w.H a = some x
    by_cases z : a = p
    · subst z; rw [upd_same] at q2; cases q2; exact ho
    · rw [upd_ne z] at q2; exact g.sub a x q2
  · have q1 : w.al[n]? = some a := q1
    by_cases hn : h = n
    · subst hn
      rw [List.getElem?_set_self (List.getElem?_eq_some_iff.mp hc).1] at q2
      cases q2
      exact True.intro
    · rw [List.getElem?_set_ne hn] at q2
      have hne : a ≠ p := fun z => by
        subst z
        obtain ⟨l1, e1⟩ := List.getElem?_eq_some_iff.mp hp
        obtain ⟨l2, e2⟩ := List.getElem?_eq_some_iff.mp q1
        exact hn ((List.getElem_inj g.nd).mp (e1.trans e2.symm))
      exact cell_ext e (fun z => by show upd w.F p o a = none; rw [upd_ne hne]; exact z) (fun x z => z) (g.cell n a c q1 q2)
theorem Good.fz (g : Good K w S) {h : Nat} {p : Addr} {o : HO} {es : List D} (hp : w.al[h]? = some p) (hc : S[h]? = some (.lst es)) (ho : w.H p = some o) : Good K (w.fz p o) (S.set h .gone) :=
  g.fzC hp hc (fun z => nomatch z) ho
end
end DL
namespace DL
open PySem PySem.Spec PyProof.Rows L2
structure Exn where
  cls : Addr
  fs : List (Str × D)
def RpX (K : PySem.W.Frag) (w : Hs) (cv : Value) (dx : Option Addr) (x : Exn) : Prop :=
  cv = .ref x.cls ∧ match dx with
    | none => x.fs = []
    | some a => ∃ vs, w.F a = some (.xd vs) ∧ RpF K w.F w.al vs x.fs
abbrev KD := Sto → D → Prop
abbrev KX := Sto → Exn → Prop
abbrev TD := Gam → Sto → KD → KX → Prop
abbrev TB := Gam → Sto → (Sto → Bool → Prop) → KX → Prop
abbrev TL := Gam → Sto → (Sto → List D → Prop) → KX → Prop
section
variable (K : PySem.W.Frag) (W : WX)
def OkD (w : Hs) (Φ : KD) (Q : VK) : Prop := ∀ v d w' S', Ext w w' → Good K w' S' → Rv K w' v d → Φ S' d → Q v w'.H
def OkB (w : Hs) (Φ : Sto → Bool → Prop) (Q : Bool → Hp → Prop) : Prop := ∀ b w' S', Ext w w' → Good K w' S' → Φ S' b → Q b w'.H
def OkL (w : Hs) (Φ : Sto → List D → Prop) (Q : List V → Hp → Prop) : Prop := ∀ vs ds w' S', Ext w w' → Good K w' S' → Ra K w' vs ds → Φ S' ds → Q vs w'.H
def OkX (w : Hs) (Ψ : KX) (σ : L2.St) : Prop := ∀ cv dx x w' S', Ext w w' → Good K w' S' → RpX K w' cv dx x → Ψ S' x → W cv dx σ w'.H
def SemE (t : TE) (T : TD) : Prop := ∀ Γ S Φ Ψ σ w, Good K w S → Slots K w σ Γ → T Γ S Φ Ψ → OkX K W w Ψ σ → ∀ Q : VK, OkD K w Φ Q → t σ w.H Q
def SemT (t : TT) (T : TB) : Prop := ∀ Γ S Φ Ψ σ w, Good K w S → Slots K w σ Γ → T Γ S Φ Ψ → OkX K W w Ψ σ → ∀ Q : Bool → Hp → Prop, OkB K w Φ Q → t σ w.H Q
def SemA (t : TA) (T : TL) : Prop := ∀ Γ S Φ Ψ σ w, Good K w S → Slots K w σ Γ → T Γ S Φ Ψ → OkX K W w Ψ σ → ∀ Q : List V → Hp → Prop, OkL K w Φ Q → t σ w.H Q
end
section
variable {K : PySem.W.Frag} {W : WX} {w w' : Hs}
theorem OkD.ext {Φ : KD} {Q : VK} (h : OkD K w Φ Q) (e : Ext w w') : OkD K w' Φ Q := fun v d w2 S' e2 => h v d w2 S' (e.trans e2)
theorem OkB.ext {Φ : Sto → Bool → Prop} {Q : Bool → Hp → Prop} (h : OkB K w Φ Q) (e : Ext w w') : OkB K w' Φ Q := fun v w2 S' e2 => h v w2 S' (e.trans e2)
theorem OkL.ext {Φ : Sto → List D → Prop} {Q : List V → Hp → Prop} (h : OkL K w Φ Q) (e : Ext w w') : OkL K w' Φ Q := fun v d w2 S' e2 => h v d w2 S' (e.trans e2)
theorem OkX.ext {Ψ : KX} {σ : L2.St} (h : OkX K W w Ψ σ) (e : Ext w w') : OkX K W w' Ψ σ := fun a b c w2 S' e2 => h a b c w2 S' (e.trans e2)
end
/-- an expression, a test, arguments: what is read (t) and what is asked of the data (T) -/
structure JE (X : Cx) (W : WX) (e : Expr) (t : TE) (T : TD) : Prop where
  pe : PE X e t
  sem : SemE X.K W t T
structure JT (X : Cx) (W : WX) (e : Expr) (t : TT) (T : TB) : Prop where
  pt : PT X e t
  sem : SemT X.K W t T
structure JW (X : Cx) (W : WX) (e : Expr) (t : TT) (T : TB) : Prop where
  pw : PW X e t
  sem : SemT X.K W t T
structure JA (X : Cx) (W : WX) (es : List Expr) (t : TA) (T : TL) : Prop where
  pa : PA X es t
  sem : SemA X.K W t T
section
variable {X : Cx} {W : WX} {e a b c : Expr} {es : List Expr} {pos : Pos} {ta tb tc te : TE} {Ta Tb Tc Te : TD}
def dVar (i : Nat) : TD := fun Γ S Φ _ => ∃ d, Γ[i]? = some (some d) ∧ Φ S d
def dC (d : D) : TD := fun _ S Φ _ => Φ S d
theorem sem_var {K : PySem.W.Frag} {i : Nat} : SemE K W (tVar i) (dVar i) := fun Γ S Φ Ψ σ w g sl ⟨d, h1, h2⟩ _ Q q => by
  obtain ⟨v, h3, r⟩ := sl.2 i d h1
  exact ⟨v, h3, q v d w S (Ext.refl w) g r h2⟩
theorem sem_c {K : PySem.W.Frag} {v : V} {d : D} (r : ∀ w : Hs, Rv K w v d) : SemE K W (tC v) (dC d) := fun Γ S Φ Ψ σ w g sl h _ Q q => q v d w S (Ext.refl w) g (r w) h
theorem je_var (i : Nat) {x : Str} (hN : X.N[i]? = some x := by rfl) (hv : Vis X.env.scope x := by first | exact Or.inl rfl | exact Or.inr (Or.inl rfl) | exact Or.inr (Or.inr rfl)) (hd : (x == ("__debug__" : Str)) = false := by decide)
    (hcd : (x == ("__classdict__" : Str)) = false := by decide) : JE X W (.Name x pos) (tVar i) (dVar i) := ⟨pe_var hN hv hd hcd, sem_var⟩
theorem je_int {i j} : JE X W (.Constant (.int i) j pos) (tC (.int i)) (dC (.int i)) := ⟨pe_int, sem_c fun _ => .int i⟩
theorem je_bl {b j} : JE X W (.Constant (.bool b) j pos) (tC (.bl b)) (dC (.bl b)) := ⟨pe_bl, sem_c fun _ => .bl b⟩
theorem je_non {j} : JE X W (.Constant .none j pos) (tC .non) (dC .non) := ⟨pe_non, sem_c fun _ => .non⟩
theorem je_str {x j} : JE X W (.Constant (.str x) j pos) (tC (.str x)) (dC (.str x)) := ⟨pe_str, sem_c fun _ => .str x⟩
/-- a constant of the module -/
theorem je_glob {x : Str} {v : V} {u : Value} {d : D} (r : ∀ w : Hs, Rv X.K w v d) (hg : Gl X x) (hm : X.mg x = some u) (q : RelV v u) (hd : (x == ("__debug__" : Str)) = false := by decide) : JE X W (.Name x pos) (tC v) (dC d) := ⟨pe_glob hg hm q hd, sem_c r⟩
theorem je_gint {x : Str} {i : Int} (hg : Gl X x) (hm : ∃ t, X.mg x = some (.int i t)) (hd : (x == ("__debug__" : Str)) = false := by decide) : JE X W (.Name x pos) (tC (.int i)) (dC (.int i)) := by
  obtain ⟨t, hm⟩ := hm
  exact je_glob (fun _ => .int i) hg hm ⟨t, rfl⟩ hd
/-- a built-in type as a value -/
theorem je_ty {x : Str} {n : String} (hg : Gl X x) (hm : X.mg x = none) (hv : bootBuiltins x = some (.type n)) (hn : x ≠ "__name__" := by decide) (hd : (x == ("__debug__" : Str)) = false := by decide) : JE X W (.Name x pos) (tC (.ty n)) (dC (.ty n)) :=
  ⟨pe_bltn hg hm hv rfl hn hd, sem_c fun _ => .ty n⟩
def OpD (K : PySem.W.Frag) (r : R2) (f : D → D → Sto → KD → Prop) : Prop :=
  ∀ w S x y u v Φ Q, Good K w S → Rv K w x u → Rv K w y v → f u v S Φ → OkD K w Φ Q → r x y w.H Q
def dOp (f : D → D → Sto → KD → Prop) (Ta Tb : TD) : TD := fun Γ S Φ Ψ => Ta Γ S (fun S1 x => Tb Γ S1 (fun S2 y => f x y S2 Φ) Ψ) Ψ
theorem sem_op {K : PySem.W.Frag} {r : R2} {f : D → D → Sto → KD → Prop} (hd : OpD K r f) (ha : SemE K W ta Ta) (hb : SemE K W tb Tb) : SemE K W (tOp r ta tb) (dOp f Ta Tb) :=
  fun Γ S Φ Ψ σ w g sl h hx Q q => ha Γ S _ Ψ σ w g sl h hx _ fun v d w1 S1 e1 g1 r1 h1 =>
    hb Γ S1 _ Ψ σ w1 g1 (sl.ext e1) h1 (hx.ext e1) _ fun v2 d2 w2 S2 e2 g2 r2 h2 => hd w2 S2 v v2 d d2 Φ Q g2 (e2.rp r1) r2 h2 (q.ext (e1.trans e2))
theorem je_op {op : Operator} {r : R2} {f : D → D → Sto → KD → Prop} (ho : OpR X (binaryOp op) r) (hd : OpD X.K r f) (ha : JE X W a ta Ta) (hb : JE X W b tb Tb) : JE X W (.BinOp a op b pos) (tOp r ta tb) (dOp f Ta Tb) :=
  ⟨pe_op ho ha.pe hb.pe, sem_op hd ha.sem hb.sem⟩
theorem je_cmp {op : CmpOp} {r : R2} {f : D → D → Sto → KD → Prop} (ho : OpR X (compareOp op) r) (hd : OpD X.K r f) (ha : JE X W a ta Ta) (hb : JE X W b tb Tb) (hm : behindInMarks op b = false) : JE X W (.Compare a [op] [b] pos) (tOp r ta tb) (dOp f Ta Tb) :=
  ⟨pe_cmpR ho ha.pe hb.pe hm, sem_op hd ha.sem hb.sem⟩
/-- a value that is a bool, as a test -/
def bOf (T : TD) : TB := fun Γ S Φ Ψ => T Γ S (fun S1 d => ∃ k, d = .bl k ∧ Φ S1 k) Ψ
theorem rv_bl {K : PySem.W.Frag} {w : Hs} {v : V} {k : Bool} (r : Rv K w v (.bl k)) : v = .bl k := by cases r; rfl
theorem rv_int {K : PySem.W.Frag} {w : Hs} {v : V} {k : Int} (r : Rv K w v (.int k)) : v = .int k := by cases r; rfl
theorem rv_str {K : PySem.W.Frag} {w : Hs} {v : V} {k : Str} (r : Rv K w v (.str k)) : v = .str k := by cases r; rfl
theorem rv_non {K : PySem.W.Frag} {w : Hs} {v : V} (r : Rv K w v .non) : v = .non := by cases r; rfl
theorem sem_bl {K : PySem.W.Frag} (h : SemE K W te Te) : SemT K W (fun σ H Q => te σ H fun x H' => ∃ k, x = .bl k ∧ Q k H') (bOf Te) := fun Γ S Φ Ψ σ w g sl h2 hx Q q =>
  h Γ S _ Ψ σ w g sl h2 hx _ fun v d w1 S1 e1 g1 r1 ⟨k, e, h3⟩ => by
    subst e
    exact ⟨k, rv_bl r1, q k w1 S1 e1 g1 h3⟩
theorem jt_cmp {op : CmpOp} {r : R2} {f : D → D → Sto → KD → Prop} (ho : OpR X (compareOp op) r) (hd : OpD X.K r f) (ha : JE X W a ta Ta) (hb : JE X W b tb Tb) (hm : behindInMarks op b = false) : JT X W (.Compare a [op] [b] pos) (tTest (tOp r ta tb)) (bOf (dOp f Ta Tb)) :=
  ⟨pt_cmpR ho ha.pe hb.pe hm, sem_bl (sem_op hd ha.sem hb.sem)⟩
def dChain (f g : D → D → Sto → KD → Prop) (Ta Tb Tc : TD) : TD := fun Γ S Φ Ψ => Ta Γ S (fun S1 x => Tb Γ S1 (fun S2 y => f x y S2 fun S3 z => ∃ k, z = .bl k ∧ (if k = true then Tc Γ S3 (fun S4 u => g y u S4 Φ) Ψ else Φ S3 (.bl false))) Ψ) Ψ
theorem sem_chain {K : PySem.W.Frag} {r r' : R2} {f g : D → D → Sto → KD → Prop} (hd : OpD K r f) (hd' : OpD K r' g) (ha : SemE K W ta Ta) (hb : SemE K W tb Tb) (hc : SemE K W tc Tc) : SemE K W (tChain r r' ta tb tc) (dChain f g Ta Tb Tc) :=
  fun Γ S Φ Ψ σ w g0 sl h hx Q q => ha Γ S _ Ψ σ w g0 sl h hx _ fun v d w1 S1 e1 g1 r1 h1 =>
    hb Γ S1 _ Ψ σ w1 g1 (sl.ext e1) h1 (hx.ext e1) _ fun v2 d2 w2 S2 e2 g2 r2 h2 => hd w2 S2 v v2 d d2 _ _ g2 (e2.rp r1) r2 h2 fun z dz w3 S3 e3 g3 r3 ⟨k, ek, h3⟩ => by
      subst ek
      refine ⟨k, rv_bl r3, ?_⟩
      have e13 := (e1.trans e2).trans e3
      cases k with
      | true => exact hc Γ S3 _ Ψ σ w3 g3 (sl.ext e13) h3 (hx.ext e13) _ fun v4 d4 w4 S4 e4 g4 r4 h4 => hd' w4 S4 v2 v4 d2 d4 Φ Q g4 ((e3.trans e4).rp r2) r4 h4 (q.ext (e13.trans e4))
      | false => exact q (.bl false) (.bl false) w3 S3 e13 g3 (.bl false) h3
theorem je_chain {op op' : CmpOp} {r r' : R2} {f g : D → D → Sto → KD → Prop} (ho : OpR X (compareOp op) r) (ho' : OpR X (compareOp op') r') (hd : OpD X.K r f) (hd' : OpD X.K r' g) (ha : JE X W a ta Ta) (hb : JE X W b tb Tb) (hc : JE X W c tc Tc)
    (hm : lastMarks [op, op'] [b, c] = false := by with_unfolding_all rfl) : JE X W (.Compare a [op, op'] [b, c] pos) (tChain r r' ta tb tc) (dChain f g Ta Tb Tc) := ⟨pe_chain ho ho' ha.pe hb.pe hc.pe hm, sem_chain hd hd' ha.sem hb.sem hc.sem⟩
theorem jt_chain {op op' : CmpOp} {r r' : R2} {f g : D → D → Sto → KD → Prop} (ho : OpR X (compareOp op) r) (ho' : OpR X (compareOp op') r') (hd : OpD X.K r f) (hd' : OpD X.K r' g) (ha : JE X W a ta Ta) (hb : JE X W b tb Tb) (hc : JE X W c tc Tc)
    (hm : lastMarks [op, op'] [b, c] = false := by with_unfolding_all rfl) : JT X W (.Compare a [op, op'] [b, c] pos) (tTest (tChain r r' ta tb tc)) (bOf (dChain f g Ta Tb Tc)) := ⟨pt_chain ho ho' ha.pe hb.pe hc.pe hm, sem_bl (sem_chain hd hd' ha.sem hb.sem hc.sem)⟩
/-- a value as a test -/
theorem jt_val (h : JE X W e te Te) (he : ∀ whole, isTrue e X.env whole = (do let v ← whole; standAt e.pos; holding [v] (truthy v)) := by intro _; rfl) : JT X W e (tB te) (bOf Te) := ⟨pt_val h.pe he, sem_bl h.sem⟩
variable {t u : TT} {T U : TB} {rest : List Expr}
def bAnd (T U : TB) : TB := fun Γ S Φ Ψ => T Γ S (fun S1 k => if k = true then U Γ S1 Φ Ψ else Φ S1 false) Ψ
def bOr (T U : TB) : TB := fun Γ S Φ Ψ => T Γ S (fun S1 k => if k = true then Φ S1 true else U Γ S1 Φ Ψ) Ψ
def bNot (T : TB) : TB := fun Γ S Φ Ψ => T Γ S (fun S1 k => Φ S1 (!k)) Ψ
theorem sem_bAnd {K : PySem.W.Frag} (h1 : SemT K W t T) (h2 : SemT K W u U) : SemT K W (tAnd t u) (bAnd T U) := fun Γ S Φ Ψ σ w g sl h hx Q q =>
  h1 Γ S _ Ψ σ w g sl h hx _ fun k w1 S1 e1 g1 h3 => by
    cases k with
    | true => exact h2 Γ S1 Φ Ψ σ w1 g1 (sl.ext e1) h3 (hx.ext e1) Q (q.ext e1)
    | false => exact q false w1 S1 e1 g1 h3
theorem sem_bOr {K : PySem.W.Frag} (h1 : SemT K W t T) (h2 : SemT K W u U) : SemT K W (tOr t u) (bOr T U) := fun Γ S Φ Ψ σ w g sl h hx Q q =>
  h1 Γ S _ Ψ σ w g sl h hx _ fun k w1 S1 e1 g1 h3 => by
    cases k with
    | true => exact q true w1 S1 e1 g1 h3
    | false => exact h2 Γ S1 Φ Ψ σ w1 g1 (sl.ext e1) h3 (hx.ext e1) Q (q.ext e1)
theorem jw_and1 (h : JT X W a t T) : JW X W (.BoolOp .And [a] pos) t T := ⟨pw_and1 h.pt, h.sem⟩
theorem jw_or1 (h : JT X W a t T) : JW X W (.BoolOp .Or [a] pos) t T := ⟨pw_or1 h.pt, h.sem⟩
theorem jw_and (h : JT X W a t T) (h2 : JW X W (.BoolOp .And (b :: rest) pos) u U) : JW X W (.BoolOp .And (a :: b :: rest) pos) (tAnd t u) (bAnd T U) := ⟨pw_and h.pt h2.pw, sem_bAnd h.sem h2.sem⟩
theorem jw_or (h : JT X W a t T) (h2 : JW X W (.BoolOp .Or (b :: rest) pos) u U) : JW X W (.BoolOp .Or (a :: b :: rest) pos) (tOr t u) (bOr T U) := ⟨pw_or h.pt h2.pw, sem_bOr h.sem h2.sem⟩
theorem JW.jt (h : JW X W e t T) : JT X W e t T := ⟨h.pw.pt, h.sem⟩
theorem jt_not (h : JT X W a t T) : JT X W (.UnaryOp .Not a pos) (tNot t) (bNot T) := ⟨pt_not h.pt, fun Γ S Φ Ψ σ w g sl h2 hx Q q => h.sem Γ S _ Ψ σ w g sl h2 hx _ fun k w1 S1 e1 g1 h3 => q (!k) w1 S1 e1 g1 h3⟩
/-- as values -/
def dAnd (Ta Tb : TD) : TD := fun Γ S Φ Ψ => Ta Γ S (fun S1 x => ∃ k, x = .bl k ∧ if k = true then Tb Γ S1 Φ Ψ else Φ S1 (.bl false)) Ψ
def dOr (Ta Tb : TD) : TD := fun Γ S Φ Ψ => Ta Γ S (fun S1 x => ∃ k, x = .bl k ∧ if k = true then Φ S1 (.bl true) else Tb Γ S1 Φ Ψ) Ψ
def dNot (Ta : TD) : TD := fun Γ S Φ Ψ => Ta Γ S (fun S1 x => ∃ k, x = .bl k ∧ Φ S1 (.bl (!k))) Ψ
theorem je_one {op} (h : JE X W a ta Ta) : JE X W (.BoolOp op [a] pos) ta Ta := ⟨pe_one h.pe, h.sem⟩
theorem je_and (ha : JE X W a ta Ta) (hb : JE X W (.BoolOp .And (b :: rest) pos) tb Tb) : JE X W (.BoolOp .And (a :: b :: rest) pos) (tAndV ta tb) (dAnd Ta Tb) := ⟨pe_and ha.pe hb.pe, fun Γ S Φ Ψ σ w g sl h hx Q q =>
  ha.sem Γ S _ Ψ σ w g sl h hx _ fun v d w1 S1 e1 g1 r1 ⟨k, e, h1⟩ => by
    subst e
    refine ⟨k, rv_bl r1, ?_⟩
    cases k with
    | true => exact hb.sem Γ S1 Φ Ψ σ w1 g1 (sl.ext e1) h1 (hx.ext e1) Q (q.ext e1)
    | false => exact q (.bl false) (.bl false) w1 S1 e1 g1 (.bl false) h1⟩
theorem je_not (ha : JE X W a ta Ta) : JE X W (.UnaryOp .Not a pos) (tNotV ta) (dNot Ta) := ⟨pe_not ha.pe, fun Γ S Φ Ψ σ w g sl h hx Q q =>
  ha.sem Γ S _ Ψ σ w g sl h hx _ fun v d w1 S1 e1 g1 r1 ⟨k, e, h1⟩ => by
    subst e
    exact ⟨k, rv_bl r1, q (.bl (!k)) (.bl (!k)) w1 S1 e1 g1 (.bl (!k)) h1⟩⟩
def dIf (T : TB) (Ta Tb : TD) : TD := fun Γ S Φ Ψ => T Γ S (fun S1 k => if k = true then Ta Γ S1 Φ Ψ else Tb Γ S1 Φ Ψ) Ψ
theorem je_if (hc : JT X W c t T) (ha : JE X W a ta Ta) (hb : JE X W b tb Tb) : JE X W (.IfExp c a b pos) (tIf t ta tb) (dIf T Ta Tb) := ⟨pe_ifExp hc.pt ha.pe hb.pe, fun Γ S Φ Ψ σ w g sl h hx Q q =>
  hc.sem Γ S _ Ψ σ w g sl h hx _ fun k w1 S1 e1 g1 h3 => by
    cases k with
    | true => exact ha.sem Γ S1 Φ Ψ σ w1 g1 (sl.ext e1) h3 (hx.ext e1) Q (q.ext e1)
    | false => exact hb.sem Γ S1 Φ Ψ σ w1 g1 (sl.ext e1) h3 (hx.ext e1) Q (q.ext e1)⟩
variable {tl : TA} {Tl : TL}
def lNil : TL := fun _ S Φ _ => Φ S []
def lCons (T : TD) (U : TL) : TL := fun Γ S Φ Ψ => T Γ S (fun S1 x => U Γ S1 (fun S2 xs => Φ S2 (x :: xs)) Ψ) Ψ
theorem ja_nil : JA X W [] tNil lNil := ⟨pa_nil, fun Γ S Φ Ψ σ w g sl h hx Q q => q [] [] w S (Ext.refl w) g .nil h⟩
theorem ja_cons (ha : JE X W e te Te) (hr : JA X W es tl Tl) (hs : starEach (e :: es) X.env = (false, eval e X.env) :: starEach es X.env := by rfl) : JA X W (e :: es) (tCons te tl) (lCons Te Tl) := ⟨pa_cons ha.pe hr.pa hs, fun Γ S Φ Ψ σ w g sl h hx Q q =>
  ha.sem Γ S _ Ψ σ w g sl h hx _ fun v d w1 S1 e1 g1 r1 h1 => hr.sem Γ S1 _ Ψ σ w1 g1 (sl.ext e1) h1 (hx.ext e1) _ fun vs ds w2 S2 e2 g2 r2 h2 => q _ _ w2 S2 (e1.trans e2) g2 (.cons (e2.rp r1) r2) h2⟩
/-- a new frozen list, a new cell, a new tuple -/
def dLst (T : TL) : TD := fun Γ S Φ Ψ => T Γ S (fun S1 ds => ds.length ≤ sizeLine ∧ Φ S1 (.lst ds)) Ψ
def dLstO (T : TL) : TD := fun Γ S Φ Ψ => T Γ S (fun S1 ds => ds.length ≤ sizeLine ∧ Φ (S1 ++ [.lst ds]) (.own S1.length)) Ψ
def dTup (T : TL) : TD := fun Γ S Φ Ψ => T Γ S (fun S1 ds => ds.length ≤ sizeLine ∧ Φ S1 (.tup ds)) Ψ
theorem new_lst {K : PySem.W.Frag} {w : Hs} {S : Sto} (g : Good K w S) {Φ : KD} {Q : VK} (q : OkD K w Φ Q) {vs : List V} {ds : List D} (r : Ra K w vs ds) (h : Φ S (.lst ds)) (p : Addr) (hp : w.H p = none) : Q (.ref p) (upd w.H p (.lst vs)) :=
  q (.ref p) (.lst ds) (w.frz p (.lst vs)) S (Ext.frz g _ hp) (g.frz _ hp) (.lst upd_same ((Ext.frz g _ hp).ra r)) h
theorem new_tup {K : PySem.W.Frag} {w : Hs} {S : Sto} (g : Good K w S) {Φ : KD} {Q : VK} (q : OkD K w Φ Q) {vs : List V} {ds : List D} (r : Ra K w vs ds) (h : Φ S (.tup ds)) (p : Addr) (hp : w.H p = none) : Q (.ref p) (upd w.H p (.tup vs)) :=
  q (.ref p) (.tup ds) (w.frz p (.tup vs)) S (Ext.frz g _ hp) (g.frz _ hp) (.tup (.inl (.inl upd_same)) ((Ext.frz g _ hp).ra r)) h
theorem new_own {K : PySem.W.Frag} {w : Hs} {S : Sto} (g : Good K w S) {Φ : KD} {Q : VK} (q : OkD K w Φ Q) {vs : List V} {ds : List D} (r : Ra K w vs ds) (h : Φ (S ++ [.lst ds]) (.own S.length)) (p : Addr) (hp : w.H p = none) : Q (.ref p) (upd w.H p (.lst vs)) :=
  q (.ref p) (.own S.length) (w.cel p (.lst vs)) (S ++ [.lst ds]) (Ext.cel g _ hp) (g.cel hp r) (.own (by
    show (w.al ++ [p])[S.length]? = some p
    rw [← g.len, List.getElem?_append_right (Nat.le_refl _), Nat.sub_self] <;> rfl)) h
theorem je_lst (h : JA X W es tl Tl) : JE X W (.List es pos) (tLst tl) (dLst Tl) := ⟨pe_lst h.pa, fun Γ S Φ Ψ σ w g sl hT hx Q q =>
  h.sem Γ S _ Ψ σ w g sl hT hx _ fun vs ds w1 S1 e1 g1 r1 ⟨z, h1⟩ => ⟨by rw [r1.length]; exact z, new_lst g1 (q.ext e1) r1 h1⟩⟩
theorem je_lstO (h : JA X W es tl Tl) : JE X W (.List es pos) (tLst tl) (dLstO Tl) := ⟨pe_lst h.pa, fun Γ S Φ Ψ σ w g sl hT hx Q q =>
  h.sem Γ S _ Ψ σ w g sl hT hx _ fun vs ds w1 S1 e1 g1 r1 ⟨z, h1⟩ => ⟨by rw [r1.length]; exact z, new_own g1 (q.ext e1) r1 h1⟩⟩
theorem je_tup {x1} (h : JA X W es tl Tl) : JE X W (.Tuple es x1 pos) (tTup tl) (dTup Tl) := ⟨pe_tup h.pa, fun Γ S Φ Ψ σ w g sl hT hx Q q =>
  h.sem Γ S _ Ψ σ w g sl hT hx _ fun vs ds w1 S1 e1 g1 r1 ⟨z, h1⟩ => ⟨by rw [r1.length]; exact z, new_tup g1 (q.ext e1) r1 h1⟩⟩
def CallD (K : PySem.W.Frag) (r : List V → Hp → VK → Prop) (f : List D → Sto → KD → Prop) : Prop :=
  ∀ w S vs ds Φ Q, Good K w S → Ra K w vs ds → f ds S Φ → OkD K w Φ Q → r vs w.H Q
def dCB (f : List D → Sto → KD → Prop) (T : TL) : TD := fun Γ S Φ Ψ => T Γ S (fun S1 ds => f ds S1 Φ) Ψ
theorem sem_cb {K : PySem.W.Frag} {r : List V → Hp → VK → Prop} {f : List D → Sto → KD → Prop} (hd : CallD K r f) (h : SemA K W tl Tl) : SemE K W (tCB r tl) (dCB f Tl) := fun Γ S Φ Ψ σ w g sl hT hx Q q =>
  h Γ S _ Ψ σ w g sl hT hx _ fun vs ds w1 S1 e1 g1 r1 h1 => hd w1 S1 vs ds Φ Q g1 r1 h1 (q.ext e1)
theorem je_callB {id : String} {x : Str} {p : Pos} {r : List V → Hp → VK → Prop} {f : List D → Sto → KD → Prop} (hc : CallR X (.builtin id) r) (hd : CallD X.K r f) (hg : Gl X x) (hm : X.mg x = none) (hv : bootBuiltins x = some (.builtin id)) (ha : JA X W (e :: es) tl Tl)
    (hn : x ≠ "__name__" := by decide) (hdb : (x == ("__debug__" : Str)) = false := by decide)
    (he : starEach (e :: es) X.env = (false, eval e X.env) :: starEach es X.env := by rfl) (hpl : (backTo pos (starEach es X.env)).any (·.1) = false := by rfl) : JE X W (.Call (.Name x p) (e :: es) [] pos) (tCB r tl) (dCB f Tl) :=
  ⟨pe_callB hc hg hm hv ha.pa hn hdb he hpl, sem_cb hd ha.sem⟩
theorem je_callTy {n : String} {x : Str} {p : Pos} {r : List V → Hp → VK → Prop} {f : List D → Sto → KD → Prop} (hc : CallR X (.type n) r) (hd : CallD X.K r f) (hg : Gl X x) (hm : X.mg x = none) (hv : bootBuiltins x = some (.type n)) (ha : JA X W (e :: es) tl Tl)
    (hn : x ≠ "__name__" := by decide) (hdb : (x == ("__debug__" : Str)) = false := by decide)
    (he : starEach (e :: es) X.env = (false, eval e X.env) :: starEach es X.env := by rfl) (hpl : (backTo pos (starEach es X.env)).any (·.1) = false := by rfl) : JE X W (.Call (.Name x p) (e :: es) [] pos) (tCB r tl) (dCB f Tl) :=
  ⟨pe_callTy hc hg hm hv ha.pa hn hdb he hpl, sem_cb hd ha.sem⟩
/-- what a def promises of data -/
abbrev DSpec := List D → Sto → KD → KX → Prop
def spOf (K : PySem.W.Frag) (sp : DSpec) : Sp := fun vs H Q E => ∃ w S ds Φ Ψ, w.H = H ∧ Good K w S ∧ Ra K w vs ds ∧ sp ds S Φ Ψ ∧ OkD K w Φ Q ∧
  ∀ cv dx x w' S', Ext w w' → Good K w' S' → RpX K w' cv dx x → Ψ S' x → E cv dx w'.H
def dCall (sp : DSpec) (T : TL) : TD := fun Γ S Φ Ψ => T Γ S (fun S1 ds => sp ds S1 Φ Ψ) Ψ
theorem sem_call {K : PySem.W.Frag} {sp : DSpec} (h : SemA K W tl Tl) : SemE K W (tCallS (spOf K sp) (WE W) tl) (dCall sp Tl) := fun Γ S Φ Ψ σ w g sl hT hx Q q =>
  h Γ S _ Ψ σ w g sl hT hx _ fun vs ds w1 S1 e1 g1 r1 h1 => ⟨w1, S1, ds, Φ, Ψ, rfl, g1, r1, h1, q.ext e1, fun cv dx x w' S' e g r hΨ => hx.ext e1 cv dx x w' S' e g r hΨ⟩
theorem je_ix {r : R2} {f : D → D → Sto → KD → Prop} (hr : IxR X r) (hd : OpD X.K r f) (ha : JE X W a ta Ta) (hb : JE X W b tb Tb) (hs : PlainIx b := by exact fun _ _ => rfl) : JE X W (.Subscript a b pos) (tOp r ta tb) (dOp f Ta Tb) := ⟨pe_ix hr ha.pe hb.pe hs, sem_op hd ha.sem hb.sem⟩
structure JO (X : Cx) (W : WX) (e : Option Expr) (t : TO) (T : Gam → Sto → (Sto → Option Int → Prop) → KX → Prop) : Prop where
  po : PO X e t
  sem : ∀ Γ S Φ Ψ σ w, Good X.K w S → Slots X.K w σ Γ → T Γ S Φ Ψ → OkX X.K W w Ψ σ → ∀ Q : Option Int → Hp → Prop, (∀ o w' S', Ext w w' → Good X.K w' S' → Φ S' o → Q o w'.H) → t σ w.H Q
abbrev TOd := Gam → Sto → (Sto → Option Int → Prop) → KX → Prop
def oNone : TOd := fun _ S Φ _ => Φ S none
def oSome (T : TD) : TOd := fun Γ S Φ Ψ => T Γ S (fun S1 d => ∃ i, d = .int i ∧ Φ S1 (some i)) Ψ
theorem jo_none : JO X W none tNoPart oNone := ⟨po_none, fun Γ S Φ Ψ σ w g sl h hx Q q => q none w S (Ext.refl w) g h⟩
theorem jo_some (h : JE X W e te Te) : JO X W (some e) (tPart te) (oSome Te) := ⟨po_some h.pe, fun Γ S Φ Ψ σ w g sl hT hx Q q =>
  h.sem Γ S _ Ψ σ w g sl hT hx _ fun v d w1 S1 e1 g1 r1 ⟨i, ei, h1⟩ => by
    subst ei
    exact ⟨i, rv_int r1, q _ w1 S1 e1 g1 h1⟩⟩
def SlD (K : PySem.W.Frag) (r : V → Option Int → Option Int → Hp → VK → Prop) (f : D → Option Int → Option Int → Sto → KD → Prop) : Prop :=
  ∀ w S v d lo hi Φ Q, Good K w S → Rv K w v d → f d lo hi S Φ → OkD K w Φ Q → r v lo hi w.H Q
def dSl (f : D → Option Int → Option Int → Sto → KD → Prop) (T : TD) (Tl Th : TOd) : TD := fun Γ S Φ Ψ => T Γ S (fun S1 d => Tl Γ S1 (fun S2 lo => Th Γ S2 (fun S3 hi => f d lo hi S3 Φ) Ψ) Ψ) Ψ
theorem je_slice {r : V → Option Int → Option Int → Hp → VK → Prop} {f : D → Option Int → Option Int → Sto → KD → Prop} {lo hi : Option Expr} {p2 : Pos} {tlo thi : TO} {Tlo Thi : TOd} (hr : SlR X r) (hd : SlD X.K r f) (he : JE X W e te Te) (hl : JO X W lo tlo Tlo) (hh : JO X W hi thi Thi) :
    JE X W (.Subscript e (.Slice lo hi none p2) pos) (tSl r te tlo thi) (dSl f Te Tlo Thi) := ⟨pe_slice hr he.pe hl.po hh.po, fun Γ S Φ Ψ σ w g sl hT hx Q q =>
  he.sem Γ S _ Ψ σ w g sl hT hx _ fun v d w1 S1 e1 g1 r1 h1 => hl.sem Γ S1 _ Ψ σ w1 g1 (sl.ext e1) h1 (hx.ext e1) _ fun lo w2 S2 e2 g2 h2 =>
    hh.sem Γ S2 _ Ψ σ w2 g2 (sl.ext (e1.trans e2)) h2 (hx.ext (e1.trans e2)) _ fun hi w3 S3 e3 g3 h3 => hd w3 S3 v d lo hi Φ Q g3 ((e2.trans e3).rp r1) h3 (q.ext ((e1.trans e2).trans e3))⟩
end
end DL
namespace DL
open PySem PySem.Spec PyProof.Rows L2
structure EdD where
  nx : Gam → Sto → Prop
  rt : Sto → D → Prop
  bk : Gam → Sto → Prop := fun _ _ => False
  ct : Gam → Sto → Prop := fun _ _ => False
  er : Sto → Exn → Prop
abbrev TSd := EdD → Gam → Sto → Prop
section
variable (K : PySem.W.Frag) (W : WX)
def OkN (w : Hs) (P : Gam → Sto → Prop) (Q : L2.St → Hp → Prop) : Prop := ∀ σ' Γ' w' S', Ext w w' → Good K w' S' → Slots K w' σ' Γ' → P Γ' S' → Q σ' w'.H
/-- what the ends by data give the ends -/
structure Rl (w : Hs) (D' : EdD) (D : Ends) : Prop where
  nx : OkN K w D'.nx D.nx
  rt : OkD K w D'.rt D.rt
  bk : OkN K w D'.bk D.bk
  ct : OkN K w D'.ct D.ct
  er : ∀ σ, OkX K W w D'.er σ
def SemS (t : TS) (T : TSd) : Prop := ∀ D' Γ S σ w D, Good K w S → Slots K w σ Γ → T D' Γ S → Rl K W w D' D → t D σ w.H
end
section
variable {K : PySem.W.Frag} {W : WX} {w w' : Hs}
theorem OkN.ext {P : Gam → Sto → Prop} {Q : L2.St → Hp → Prop} (h : OkN K w P Q) (e : Ext w w') : OkN K w' P Q := fun σ Γ w2 S' e2 => h σ Γ w2 S' (e.trans e2)
theorem Rl.ext {D' : EdD} {D : Ends} (h : Rl K W w D' D) (e : Ext w w') : Rl K W w' D' D := ⟨h.nx.ext e, h.rt.ext e, h.bk.ext e, h.ct.ext e, fun σ => (h.er σ).ext e⟩
end
structure JS (X : Cx) (W : WX) (st : Stmt) (t : TS) (T : TSd) : Prop where
  ps : PS X st t
  sem : SemS X.K W t T
structure JB (X : Cx) (W : WX) (st : List Stmt) (t : TS) (T : TSd) : Prop where
  pss : PSs X st t
  sem : SemS X.K W t T
section
variable {X : Cx} {W : WX} {e a b c : Expr} {es : List Expr} {pos : Pos} {ta tb tc te : TE} {Ta Tb Tc Te : TD} {st : Stmt} {rest : List Stmt} {t u : TS} {T U : TSd}
def sNext : TSd := fun D Γ S => D.nx Γ S
def sSeq (T U : TSd) : TSd := fun D Γ S => T { D with nx := U D } Γ S
theorem jb_nil : JB X W [] tNext sNext := ⟨pss_nil, fun D' Γ S σ w D g sl h r => r.nx σ Γ w S (Ext.refl w) g sl h⟩
theorem jb_cons (h1 : JS X W st t T) (h2 : JB X W rest u U) : JB X W (st :: rest) (tSeq t u) (sSeq T U) := ⟨pss_cons h1.ps h2.pss, fun D' Γ S σ w D g sl h r =>
  h1.sem { D' with nx := U D' } Γ S σ w { D with nx := u D } g sl h ⟨fun σ' Γ' w' S' e' g' sl' h' => h2.sem D' Γ' S' σ' w' D g' sl' h' (r.ext e'), r.rt, r.bk, r.ct, r.er⟩⟩
theorem jb_one (h1 : JS X W st t T) : JB X W [st] t T := ⟨pss_one h1.ps, h1.sem⟩
def sBrk : TSd := fun D Γ S => D.bk Γ S
def sCnt : TSd := fun D Γ S => D.ct Γ S
def sDrop (T : TD) : TSd := fun D Γ S => T Γ S (fun S1 _ => D.nx Γ S1) D.er
theorem js_expr (he : JE X W e te Te) (hs : swapsWith e none pos.line X.env = pure false := by rfl) : JS X W (.Expr e pos) (tDrop te) (sDrop Te) := ⟨ps_expr he.pe hs, fun D' Γ S σ w D g sl h r =>
  he.sem Γ S _ _ σ w g sl h (r.er σ) _ fun v d w' S' e' g' _ h' => r.nx σ Γ w' S' e' g' (sl.ext e') h'⟩
def sRet (T : TD) : TSd := fun D Γ S => T Γ S D.rt D.er
theorem js_ret (he : JE X W e te Te) : JS X W (.Return (some e) pos) (tRet te) (sRet Te) := ⟨ps_ret he.pe, fun D' Γ S σ w D g sl h r => he.sem Γ S _ _ σ w g sl h (r.er σ) _ r.rt⟩
def sRetN : TSd := fun D _ S => D.rt S .non
def sIf (C : TB) (T U : TSd) : TSd := fun D Γ S => C Γ S (fun S1 k => if k = true then T D Γ S1 else U D Γ S1) D.er
theorem js_if {A B : List Stmt} {tt : TT} {C : TB} (hc : JT X W c tt C) (ha : JB X W A t T) (hb : JB X W B u U) : JS X W (.If c A B pos) (tIfS tt t u) (sIf C T U) := ⟨ps_if hc.pt ha.pss hb.pss, fun D' Γ S σ w D g sl h r =>
  hc.sem Γ S _ _ σ w g sl h (r.er σ) _ fun k w' S' e' g' h' => by
    cases k with
    | true => exact ha.sem D' Γ S' σ w' D g' (sl.ext e') h' (r.ext e')
    | false => exact hb.sem D' Γ S' σ w' D g' (sl.ext e') h' (r.ext e')⟩
abbrev TGd := D → Gam → Sto → (Gam → Sto → Prop) → Prop
def SemG (K : PySem.W.Frag) (t : TG) (T : TGd) : Prop := ∀ d Γ S v σ w P Q, Good K w S → Slots K w σ Γ → Rv K w v d → T d Γ S P → OkN K w P Q → t v σ w.H Q
structure JG (X : Cx) (tg : Expr) (t : TG) (T : TGd) : Prop where
  pg : PG X tg t
  sem : SemG X.K t T
abbrev TGs' := List D → Gam → Sto → (Gam → Sto → Prop) → Prop
def SemGs (K : PySem.W.Frag) (t : TGs) (T : TGs') : Prop := ∀ ds Γ S vs σ w P Q, Good K w S → Slots K w σ Γ → Ra K w vs ds → T ds Γ S P → OkN K w P Q → t vs σ w.H Q
structure JGs (X : Cx) (ts : List Expr) (t : TGs) (T : TGs') : Prop where
  pg : PGs X ts t
  sem : SemGs X.K t T
def nmG (i : Nat) : TGd := fun d Γ S P => P (Γ.set i (some d)) S
theorem jg_name (i : Nat) {x : Str} (hN : X.N.Nodup) (hi : X.N[i]? = some x := by rfl) (hx : Loc X.env.scope x := by first | exact Or.inl rfl | exact Or.inr rfl) (hf : X.fn x = true ∨ X.env.scope.names.lookup x = some .local := by first | exact .inl rfl | exact .inr rfl | assumption) : JG X (.Name x pos) (gName i) (nmG i) :=
  ⟨pg_name hN hi hx hf, fun d Γ S v σ w P Q g sl r h q => q _ _ w S (Ext.refl w) g (sl.set r i) h⟩
def gsNil : TGs' := fun ds Γ S P => ds = [] ∧ P Γ S
def gsCons (T : TGd) (U : TGs') : TGs' := fun ds Γ S P => ∃ d r, ds = d :: r ∧ T d Γ S fun Γ' S' => U r Γ' S' P
theorem jgs_nil : JGs X [] gNil gsNil := ⟨pgs_nil, fun ds Γ S vs σ w P Q g sl r ⟨e, h⟩ q => by
  subst e
  cases r
  exact ⟨rfl, q σ Γ w S (Ext.refl w) g sl h⟩⟩
theorem jgs_cons {g1 : TG} {g2 : TGs} {G1 : TGd} {G2 : TGs'} (h1 : JG X e g1 G1) (h2 : JGs X es g2 G2) (hs : (assignEach (e :: es) X.env).map (·.2) = assign e X.env :: (assignEach es X.env).map (·.2) := by rfl) : JGs X (e :: es) (gCons g1 g2) (gsCons G1 G2) :=
  ⟨pgs_cons h1.pg h2.pg hs, fun ds Γ S vs σ w P Q g sl r ⟨d, rr, e, h⟩ q => by
    subst e
    cases r with
    | cons ra rb => exact ⟨_, _, rfl, h1.sem d Γ S _ σ w _ _ g sl ra h fun σ' Γ' w' S' e' g' sl' h' => h2.sem rr Γ' S' _ σ' w' P Q g' sl' (e'.ra rb) h' (q.ext e')⟩⟩
def tupG (n : Nat) (T : TGs') : TGd := fun d Γ S P => ∃ ds, d = .tup ds ∧ ds.length = n ∧ T ds Γ S P
theorem jg_tup {n : Nat} {x1} {gs : TGs} {G : TGs'} (hc : X.calm = true) (h : JGs X es gs G) (hn : (assignEach es X.env).length = n := by rfl) (hst : (assignEach es X.env).findIdx? (·.1) = none := by rfl) : JG X (.Tuple es x1 pos) (gTup X.K n gs) (tupG n G) :=
  ⟨pg_tup hc h.pg hn hst, fun d Γ S v σ w P Q g sl r ⟨ds, e, hl, hT⟩ q => by
    subst e
    cases r with
    | tup hq ra => exact ⟨_, _, rfl, sameSqt g.sub hq, by rw [ra.length]; exact hl, h.sem ds Γ S _ σ w P Q g sl ra hT q⟩⟩
/-- o[i] = v -/
def TSetD (K : PySem.W.Frag) (t : TSet) (f : D → D → D → Sto → (Sto → Prop) → Prop) : Prop := ∀ w S o i v do_ di dv P Q, Good K w S → Rv K w o do_ → Rv K w i di → Rv K w v dv → f do_ di dv S P → (∀ w' S', Ext w w' → Good K w' S' → P S' → Q w'.H) → t o i v w.H Q
def subG (f : D → D → D → Sto → (Sto → Prop) → Prop) (To Ti : TD) : TGd := fun d Γ S P => To Γ S (fun S1 o => Ti Γ S1 (fun S2 i => f o i d S2 fun S3 => P Γ S3) fun _ _ => False) fun _ _ => False
theorem jg_sub {o i : Expr} {to ti : TE} {To Ti : TD} {ts : TSet} {f : D → D → D → Sto → (Sto → Prop) → Prop} (ho : JE X (fun _ _ _ _ => False) o to To) (hi : JE X (fun _ _ _ _ => False) i ti Ti) (hs : PSet X ts) (hd : TSetD X.K ts f)
    (hha : ∀ v, assign (.Subscript o i pos) X.env v = (do
      let ov ← holding [v] (eval o X.env)
      let iv ← holding [v, ov] (eval i X.env)
      standAt pos
      holding [v, ov, iv] (setItem ov iv v)
      release [v, ov, iv] []) := by intro _; rfl) : JG X (.Subscript o i pos) (gSub to ti ts) (subG f To Ti) :=
  ⟨pg_sub ho.pe hi.pe hs hha, fun d Γ S v σ w P Q g sl r h q => ho.sem Γ S _ _ σ w g sl h (fun _ _ _ _ _ _ _ _ z => z) _ fun vo do_ w1 S1 e1 g1 r1 h1 =>
    hi.sem Γ S1 _ _ σ w1 g1 (sl.ext e1) h1 (fun _ _ _ _ _ _ _ _ z => z) _ fun vi di w2 S2 e2 g2 r2 h2 =>
      hd w2 S2 vo vi v do_ di d _ _ g2 (e2.rp r1) r2 ((e1.trans e2).rp r) h2 fun w3 S3 e3 g3 h3 => q σ Γ w3 S3 ((e1.trans e2).trans e3) g3 (sl.ext ((e1.trans e2).trans e3)) h3⟩
def sAsg (T : TD) (G : TGd) : TSd := fun D Γ S => T Γ S (fun S1 d => G d Γ S1 D.nx) D.er
theorem sem_asg {K : PySem.W.Frag} {g : TG} {G : TGd} (he : SemE K W te Te) (hg : SemG K g G) : SemS K W (tAsg te g) (sAsg Te G) := fun D' Γ S σ w D g0 sl h r =>
  he Γ S _ _ σ w g0 sl h (r.er σ) _ fun v d w1 S1 e1 g1 r1 h1 => hg d Γ S1 v σ w1 D'.nx D.nx g1 (sl.ext e1) r1 h1 (r.nx.ext e1)
theorem js_asg {tg : Expr} {g : TG} {G : TGd} (he : JE X W e te Te) (hg : JG X tg g G) (hs : swapsWithSole [tg] e pos.line X.env = pure false := by rfl) (hw : swappedStores [tg] e X.env = pure none := by rfl)
    (h1 : (assignEach [tg] X.env).map (·.2) = [assign tg X.env] := by rfl) : JS X W (.Assign [tg] e pos) (tAsg te g) (sAsg Te G) :=
  ⟨ps_asg he.pe hg.pg hs hw h1, sem_asg he.sem hg.sem⟩
theorem sem_nmG {K : PySem.W.Frag} (i : Nat) : SemG K (gName i) (nmG i) := fun d Γ S v σ w P Q g sl r h q => q _ _ w S (Ext.refl w) g (sl.set r i) h
theorem js_set (i : Nat) {x : Str} {pos' : Pos} (hN : X.N.Nodup) (he : JE X W e te Te) (hi : X.N[i]? = some x := by rfl) (hx : Loc X.env.scope x := by first | exact Or.inl rfl | exact Or.inr rfl) (hs : swapsWith e (some (.Name x pos')) pos.line X.env = pure false := by rfl)
    (hf : X.fn x = true ∨ X.env.scope.names.lookup x = some .local := by first | exact .inl rfl | exact .inr rfl | assumption) : JS X W (.Assign [.Name x pos'] e pos) (tAsg te (gName i)) (sAsg Te (nmG i)) := ⟨ps_set hN hi hx he.pe hs hf, sem_asg he.sem (sem_nmG i)⟩
/-- a, b = e1, e2 -/
def sPar (i j : Nat) (T : TL) : TSd := fun D Γ S => T Γ S (fun S1 ds => ∃ x y, ds = [x, y] ∧ D.nx ((Γ.set i (some x)).set j (some y)) S1) D.er
theorem sem_par {K : PySem.W.Frag} {i j : Nat} {tl : TA} {Tl : TL} (h : SemA K W tl Tl) : SemS K W (tPar i j tl) (sPar i j Tl) := fun D' Γ S σ w D g sl hT r =>
  h Γ S _ _ σ w g sl hT (r.er σ) _ fun vs ds w1 S1 e1 g1 r1 ⟨x, y, e, h1⟩ => by
    subst e
    cases r1 with
    | cons ra rb =>
      cases rb with
      | cons rc rd =>
        cases rd
        exact ⟨_, _, rfl, r.nx _ _ w1 S1 e1 g1 (((sl.ext e1).set ra i).set rc j) h1⟩
theorem js_par (i j : Nat) {x y : Str} {px py pt : Pos} {kt k2 pt2} {tl : TA} {Tl : TL} (hc : X.calm = true) (hN : X.N.Nodup) (ha : JA X W [a, b] tl Tl) (hij : i ≠ j := by decide) (hi : X.N[i]? = some x := by rfl) (hj : X.N[j]? = some y := by rfl)
    (hx : X.env.scope.names.lookup x = some .local := by rfl) (hy : X.env.scope.names.lookup y = some .local := by rfl)
    (hw : swappedStores [.Tuple [.Name x px, .Name y py] kt pt] (.Tuple [a, b] k2 pt2) X.env = pure (some [x, y]) := by rfl)
    (hs : swapsWithSole [.Tuple [.Name x px, .Name y py] kt pt] (.Tuple [a, b] k2 pt2) pos.line X.env = pure false := by rfl) :
    JS X W (.Assign [.Tuple [.Name x px, .Name y py] kt pt] (.Tuple [a, b] k2 pt2) pos) (tPar i j tl) (sPar i j Tl) := ⟨ps_par hc hN hi hj hij hx hy ha.pa hw hs, sem_par ha.sem⟩
/-- x += e -/
def sAug (i : Nat) (T : TD) (f : D → D → Sto → KD → Prop) : TSd := fun D Γ S => ∃ d, Γ[i]? = some (some d) ∧ T Γ S (fun S1 y => f d y S1 fun S2 z => D.nx (Γ.set i (some z)) S2) D.er
def IpD (K : PySem.W.Frag) (t : TIp) (f : D → D → Sto → KD → Prop) : Prop := ∀ w S x y u v Φ Q, Good K w S → Rv K w x u → Rv K w y v → f u v S Φ → OkD K w Φ Q → t x y w.H Q
theorem js_aug (i : Nat) {x : Str} {op : Operator} {ti : TIp} {f : D → D → Sto → KD → Prop} {pos' : Pos} (hN : X.N.Nodup) (he : JE X W e te Te) (ho : PIp X op ti) (hd : IpD X.K ti f) (hi : X.N[i]? = some x := by rfl) (hx : Loc X.env.scope x := by first | exact Or.inl rfl | exact Or.inr rfl)
    (hf : X.fn x = true ∨ X.env.scope.names.lookup x = some .local := by first | exact .inl rfl | exact .inr rfl | assumption) : JS X W (.AugAssign (.Name x pos') op e pos) (tAug i te ti) (sAug i Te f) :=
  ⟨ps_aug hN hi hx he.pe ho hf, fun D' Γ S σ w D g sl ⟨d, h1, h2⟩ r => by
    obtain ⟨v, h3, rv⟩ := sl.2 i d h1
    exact ⟨v, h3, he.sem Γ S _ _ σ w g sl h2 (r.er σ) _ fun v2 d2 w1 S1 e1 g1 r1 h4 => hd w1 S1 v v2 d d2 _ _ g1 (e1.rp rv) r1 h4 fun v3 d3 w2 S2 e2 g2 r2 h5 => r.nx _ _ w2 S2 (e1.trans e2) g2 ((sl.ext (e1.trans e2)).set r2 i) h5⟩⟩
/-- the items behind a source, by the cells -/
abbrev Src := Sto → Option (List D)
def SrcOk (K : PySem.W.Frag) (w0 : Hs) (J : It) (src : Src) : Prop := ∀ w S ds i, Ext w0 w → Good K w S → src S = some ds →
  (∀ d, ds[i]? = some d → J.go i w.H ∧ ∀ x H', J.yld i w.H x H' → ∃ w', Ext w w' ∧ Good K w' S ∧ w'.H = H' ∧ Rv K w' x d) ∧ (ds.length ≤ i → J.stop i w.H)
abbrev TId := Gam → Sto → (Sto → Src → Prop) → KX → Prop
def SemI (K : PySem.W.Frag) (W : WX) (t : TI) (T : TId) : Prop := ∀ Γ S Φ Ψ σ w, Good K w S → Slots K w σ Γ → T Γ S Φ Ψ → OkX K W w Ψ σ → ∀ Q : It → Hp → Prop, (∀ J src w' S', Ext w w' → Good K w' S' → SrcOk K w' J src → Φ S' src → Q J w'.H) → t σ w.H Q
structure JI (X : Cx) (W : WX) (tg iter : Expr) (t : TI) (T : TId) : Prop where
  pi : PI X tg iter t
  sem : SemI X.K W t T
/-- for: n turns, P the invariant -/
def sFor (I : TId) (G : TGd) (B : TSd) : TSd := fun D Γ S => I Γ S (fun S1 src => ∃ (P : Nat → Gam → Sto → Prop) (n : Nat), P 0 Γ S1 ∧
  (∀ i Γ' S', i ≤ n → P i Γ' S' → ∃ ds, src S' = some ds ∧ ds.length = n) ∧
  (∀ i Γ' S' ds d, P i Γ' S' → src S' = some ds → ds[i]? = some d → G d Γ' S' fun Γ2 S2 => B { D with nx := P (i + 1), ct := P (i + 1), bk := D.nx } Γ2 S2) ∧
  (∀ Γ' S', P n Γ' S' → D.nx Γ' S')) D.er
theorem sem_for {K : PySem.W.Frag} {wi : TI} {g : TG} {tb : TS} {I : TId} {G : TGd} {B : TSd} (hi : SemI K W wi I) (hg : SemG K g G) (hb : SemS K W tb B) : SemS K W (tFor wi g tb) (sFor I G B) := fun D' Γ S σ w D g0 sl h r =>
  hi Γ S _ _ σ w g0 sl h (r.er σ) _ fun J src w1 S1 e1 g1 ok ⟨P, n, h0, hl, hs, hd⟩ => by
    refine ⟨fun i m σ' H' => m + i = n ∧ ∃ w' Γ' S', H' = w'.H ∧ Ext w1 w' ∧ Good K w' S' ∧ Slots K w' σ' Γ' ∧ P i Γ' S', ⟨n, by omega, w1, Γ, S1, rfl, Ext.refl w1, g1, sl.ext e1, h0⟩, ?_⟩
    rintro i m σ' H' ⟨hm, w', Γ', S', rfl, e', g', sl', p⟩
    obtain ⟨ds, hsrc, hlen⟩ := hl i Γ' S' (by omega) p
    have q := ok w' S' ds i e' g' hsrc
    by_cases hlt : i < n
    · have hx : ds[i]? = some ds[i] := List.getElem?_eq_getElem (by omega)
      obtain ⟨hgo, hy⟩ := q.1 _ hx
      refine .inr ⟨hgo, fun σ2 H2 => ∃ w2 Γ2 S2, H2 = w2.H ∧ Ext w1 w2 ∧ Good K w2 S2 ∧ Slots K w2 σ2 Γ2 ∧ P (i + 1) Γ2 S2, ?_, ?_⟩
      · rintro σ2 H2 ⟨w2, Γ2, S2, rfl, e2, g2, sl2, p2⟩
        exact ⟨m - 1, by omega, by omega, w2, Γ2, S2, rfl, e2, g2, sl2, p2⟩
      · intro x H2 hyl
        obtain ⟨w2, e2, g2, rfl, r2⟩ := hy x H2 hyl
        have e12 := e'.trans e2
        refine hg _ Γ' S' x σ' w2 _ _ g2 (sl'.ext e2) r2 (hs i Γ' S' ds _ p hsrc hx) fun σ3 Γ3 w3 S3 e3 g3 sl3 h3 => ?_
        have e13 := e12.trans e3
        refine hb _ Γ3 S3 σ3 w3 _ g3 sl3 h3 ⟨fun σ4 Γ4 w4 S4 e4 g4 sl4 h4 => ⟨w4, Γ4, S4, rfl, e13.trans e4, g4, sl4, h4⟩, (r.ext (e1.trans e13)).rt, (r.ext (e1.trans e13)).nx, fun σ4 Γ4 w4 S4 e4 g4 sl4 h4 => ⟨w4, Γ4, S4, rfl, e13.trans e4, g4, sl4, h4⟩, (r.ext (e1.trans e13)).er⟩
    · have hin : i = n := by omega
      subst hin
      exact .inl ⟨q.2 (by omega), r.nx σ' Γ' w' S' (e1.trans e') g' sl' (hd Γ' S' p)⟩
theorem js_for {tg iter : Expr} {body : List Stmt} {wi : TI} {g : TG} {tb : TS} {I : TId} {G : TGd} {B : TSd} (hp : PassesOwn (model X.prog X.w) X.A X.env X.xe) (hc : X.calm = true) (hi : JI X W tg iter wi I) (hg : JG X tg g G) (hb : JB X W body tb B) (hs : ∀ x, foldedSetIterable iter X.env x = pure x := by intro _; rfl) :
    JS X W (.For tg iter body [] pos) (tFor wi g tb) (sFor I G B) := ⟨ps_for hp hc hi.pi hg.pg hb.pss hs, sem_for hi.sem hg.sem hb.sem⟩
def gstart (N : List Str) (ds : List D) : Gam := ds.map some ++ List.replicate (N.length - ds.length) none
theorem slots_start {K : PySem.W.Frag} {w : Hs} {N : List Str} {vs : List V} {ds : List D} (r : Ra K w vs ds) : Slots K w (L2.start N vs) (gstart N ds) := by
  refine ⟨by simp [L2.start, gstart, r.length], fun i d h => ?_⟩
  unfold gstart at h
  by_cases hi : i < ds.length
  · rw [List.getElem?_append_left (by simpa using hi), List.getElem?_map] at h
    cases q : ds[i]? with
    | none => rw [q] at h; cases h
    | some d' =>
      rw [q] at h; cases h
      obtain ⟨v, h1, h2⟩ := r.get q
      refine ⟨v, ?_, h2⟩
      unfold L2.start
      rw [List.getElem?_append_left (by rw [List.length_map]; exact (List.getElem?_eq_some_iff.mp h1).1), List.getElem?_map, h1] <;> rfl
  · rw [List.getElem?_append_right (by simpa using hi)] at h
    rw [List.getElem?_replicate] at h
    split at h <;> cases h
/-- the wish of a def's body -/
abbrev WD (E : XK) : WX := fun cv dx _ H => E cv dx H
structure JTs (X : Cx) (ifs : List Expr) (t : TT) (T : TB) : Prop where
  pts : PTs X ifs t
  sem : SemT X.K (fun _ _ _ _ => False) t T
def bYes : TB := fun _ S Φ _ => Φ S true
theorem jts_nil : JTs X [] tYes bYes := ⟨pts_nil, fun Γ S Φ Ψ σ w g sl h hx Q q => q true w S (Ext.refl w) g h⟩
theorem jts_one {tt : TT} {C : TB} (h : JT X (fun _ _ _ _ => False) c tt C) : JTs X [c] tt C := ⟨pts_one h.pt, h.sem⟩
/-- [elt for tg in iter if ..]: P by the turn, the cells and what is made so far -/
def dLc (I : TId) (G : TGd) (C : TB) (Te : TD) (vs : List Nat) (Fin : List D → Sto → KD → Prop) : TD := fun Γ S Φ Ψ => I Γ S (fun S1 src => ∃ (P : Nat → List D → Sto → Prop) (n : Nat), n ≤ sizeLine ∧ P 0 [] S1 ∧
  (∀ i acc S', i ≤ n → P i acc S' → ∃ ds, src S' = some ds ∧ ds.length = n) ∧
  (∀ i acc S' ds d, P i acc S' → src S' = some ds → ds[i]? = some d → G d (gwipe Γ vs) S' fun Γ2 S2 => C Γ2 S2 (fun S3 k => if k = true then Te Γ2 S3 (fun S4 y => P (i + 1) (acc ++ [y]) S4) (fun _ _ => False) else P (i + 1) acc S3) (fun _ _ => False)) ∧
  (∀ acc S', P n acc S' → Fin acc S' Φ)) Ψ
def finF : List D → Sto → KD → Prop := fun acc S Φ => Φ S (.lst acc)
def finO : List D → Sto → KD → Prop := fun acc S Φ => Φ (S ++ [.lst acc]) (.own S.length)
def FinOk (Fin : List D → Sto → KD → Prop) : Prop := ∀ (K : PySem.W.Frag) (w : Hs) (S : Sto) (acc : List D) (Φ : KD) (p : Addr) (xs : List V) (Q : V → Hp → Prop), Good K w S → w.H p = some (.lst xs) → w.F p = none → p ∉ w.al → Ra K w xs acc → Fin acc S Φ →
  (∀ v d w' S', (∀ a o, w.F a = some o → w'.F a = some o) → (∀ a o, w'.F a = some o → w.F a = some o ∨ a = p) → (w'.al = w.al ∨ w'.al = w.al ++ [p]) → w'.H = w.H → Good K w' S' → Rv K w' v d → Φ S' d → Q v w'.H) → Q (.ref p) w.H
theorem finF_ok : FinOk finF := by
  intro K w S acc Φ p xs Q g hH hF hA r h q
  let w' : Hs := ⟨upd w.F p (.lst xs), w.al, w.H⟩
  have up : ∀ a o, w.F a = some o → w'.F a = some o := updF hF
  have ra : Ra K w' xs acc := RpA.mono up (fun _ _ z => z) acc xs r
  refine q (.ref p) (.lst acc) w' S up (fun a o e => ?_) (.inl rfl) rfl ⟨fun a o e => ?_, g.nd, g.len, fun n a c q1 q2 => ?_, g.dom⟩ (.lst upd_same ra) h
  · by_cases z : a = p
    · exact .inr z
    · have e2 : upd w.F p (.lst xs) a = some o := e
      rw [upd_ne z] at e2
      exact .inl e2
  · have e2 : upd w.F p (.lst xs) a = some o := e
    by_cases z : a = p
    · subst z; rw [upd_same] at e2; cases e2; exact hH
    · rw [upd_ne z] at e2; exact g.sub a o e2
  · have hne : a ≠ p := fun z => hA (z ▸ List.mem_of_getElem? q1)
    cases c with
    | gone => exact True.intro
    | lst ds =>
      obtain ⟨h1, ys, h2, h3⟩ := g.cell n a _ q1 q2
      exact ⟨by show upd w.F p _ a = none; rw [upd_ne hne]; exact h1, ys, h2, RpA.mono up (fun _ _ z => z) ds ys h3⟩
    | ins C fs =>
      obtain ⟨h1, dx, ys, h2, h3⟩ := g.cell n a _ q1 q2
      exact ⟨by show upd w.F p _ a = none; rw [upd_ne hne]; exact h1, dx, ys, h2, RpF.mono up (fun _ _ z => z) fs ys h3⟩
    | dct ks =>
      obtain ⟨h1, us, h2, h3⟩ := g.cell n a _ q1 q2
      exact ⟨by show upd w.F p _ a = none; rw [upd_ne hne]; exact h1, us, h2, h3.mono up (fun _ _ z => z)⟩
    | dck ks =>
      obtain ⟨h1, us, h2, h3⟩ := g.cell n a _ q1 q2
      exact ⟨by show upd w.F p _ a = none; rw [upd_ne hne]; exact h1, us, h2, RpK.mono up (fun _ _ z => z) ks us h3⟩
    | lck o us ks =>
      obtain ⟨h1, h2, h3⟩ := g.cell n a _ q1 q2
      exact ⟨by show upd w.F p _ a = none; rw [upd_ne hne]; exact h1, h2, RpK.mono up (fun _ _ z => z) ks us h3⟩
theorem finO_ok : FinOk finO := by
  intro K w S acc Φ p xs Q g hH hF hA r h q
  let w' : Hs := ⟨w.F, w.al ++ [p], w.H⟩
  have am : ∀ (n : Nat) (a : Addr), w.al[n]? = some a → w'.al[n]? = some a := fun n a z => by
    show (w.al ++ [p])[n]? = some a
    rw [List.getElem?_append_left (List.getElem?_eq_some_iff.mp z).1]; exact z
  have ra : Ra K w' xs acc := RpA.mono (fun _ _ z => z) am acc xs r
  refine q (.ref p) (.own S.length) w' (S ++ [Cell.lst acc]) (fun _ _ z => z) (fun _ _ z => .inl z) (.inr rfl) rfl ⟨g.sub, ?_, ?_, fun n a c q1 q2 => ?_, fun a z => ?_⟩ (.own ?_) h
  · show (w.al ++ [p]).Nodup
    rw [List.nodup_append]
    exact ⟨g.nd, by simp, fun a ha b hb => by rw [List.mem_singleton.mp hb]; exact fun z => hA (z ▸ ha)⟩
  · show (w.al ++ [p]).length = _
    rw [List.length_append, List.length_append, g.len] <;> rfl
  · have q1 : (w.al ++ [p])[n]? = some a := q1
    by_cases hn : n < w.al.length
    · rw [List.getElem?_append_left hn] at q1
      rw [List.getElem?_append_left (by rw [← g.len]; exact hn)] at q2
      cases c with
      | gone => exact True.intro
      | lst ds =>
        obtain ⟨h1, ys, h2, h3⟩ := g.cell n a _ q1 q2
        exact ⟨h1, ys, h2, RpA.mono (fun _ _ z => z) am ds ys h3⟩
      | ins C fs =>
        obtain ⟨h1, dx, ys, h2, h3⟩ := g.cell n a _ q1 q2
        exact ⟨h1, dx, ys, h2, RpF.mono (fun _ _ z => z) am fs ys h3⟩
      | dct ks =>
        obtain ⟨h1, us, h2, h3⟩ := g.cell n a _ q1 q2
        exact ⟨h1, us, h2, h3.mono (fun _ _ z => z) am⟩
      | dck ks =>
        obtain ⟨h1, us, h2, h3⟩ := g.cell n a _ q1 q2
        exact ⟨h1, us, h2, RpK.mono (fun _ _ z => z) am ks us h3⟩
      | lck o us ks =>
        obtain ⟨h1, h2, h3⟩ := g.cell n a _ q1 q2
        exact ⟨h1, h2, RpK.mono (fun _ _ z => z) am ks us h3⟩
    · have hn2 : n = w.al.length := by
        have := (List.getElem?_eq_some_iff.mp q1).1
        rw [List.length_append] at this
        have h1 : [p].length = 1 := rfl
        omega
      subst hn2
      rw [List.getElem?_append_right (Nat.le_refl _), Nat.sub_self] at q1
      rw [List.getElem?_append_right (by rw [g.len]; exact Nat.le_refl _), g.len, Nat.sub_self] at q2
      have e1 : p = a := Option.some.inj q1
      have e2 : Cell.lst acc = c := Option.some.inj q2
      subst e1; subst e2
      exact ⟨hF, xs, hH, ra⟩
  · have z : a ∈ w.al ++ [p] := z
    rcases List.mem_append.mp z with z | z
    · exact g.dom a z
    · rw [List.mem_singleton.mp z, hH]; exact fun z => nomatch z
  · show (w.al ++ [p])[S.length]? = some p
    rw [← g.len, List.getElem?_append_right (Nat.le_refl _), Nat.sub_self] <;> rfl
theorem wipe_set {σ : L2.St} : ∀ {vs : List Nat} {i : Nat} {o : Option V}, i ∈ vs → L2.wipe (σ.set i o) vs = L2.wipe σ vs
  | [], _, _, h => nomatch h
  | v :: vs, i, o, h => by
    by_cases hv : i ∈ vs
    · show (L2.wipe (σ.set i o) vs).set v none = (L2.wipe σ vs).set v none
      rw [wipe_set hv]
    · have e : i = v := by
        rcases List.mem_cons.mp h with z | z
        · exact z
        · exact absurd z hv
      subst e
      have out : ∀ (us : List Nat) (G : L2.St), i ∉ us → L2.wipe (G.set i o) us = (L2.wipe G us).set i o := by
        intro us
        induction us with
        | nil => intro G _; rfl
        | cons u us ih =>
          intro G hn
          have h1 : i ≠ u := fun z => hn (by rw [z]; exact List.mem_cons_self)
          have h2 : i ∉ us := fun z => hn (List.mem_cons_of_mem _ z)
          show (L2.wipe (G.set i o) us).set u none = ((L2.wipe G us).set u none).set i o
          rw [ih G h2, List.set_comm _ _ h1]
      show (L2.wipe (σ.set i o) vs).set i none = (L2.wipe σ vs).set i none
      rw [out vs σ hv, List.set_set]
theorem wipe_wipe (σ : L2.St) : ∀ (vs us : List Nat), (∀ v ∈ us, v ∈ vs) → L2.wipe (L2.wipe σ us) vs = L2.wipe σ vs
  | vs, [], _ => rfl
  | vs, u :: us, h => by
    show L2.wipe ((L2.wipe σ us).set u none) vs = L2.wipe σ vs
    rw [wipe_set (h u List.mem_cons_self)]
    exact wipe_wipe σ vs us fun v hv => h v (List.mem_cons_of_mem _ hv)
/-- a target that stores in the slots vs alone -/
structure GK (vs : List Nat) (g : TG) : Prop where
  keep : ∀ x σ H k, g x σ H k → g x σ H fun σ2 H2 => L2.wipe σ2 vs = L2.wipe σ vs ∧ k σ2 H2
structure GKs (vs : List Nat) (g : TGs) : Prop where
  keep : ∀ x σ H k, g x σ H k → g x σ H fun σ2 H2 => L2.wipe σ2 vs = L2.wipe σ vs ∧ k σ2 H2
  mono : ∀ x σ H (k k' : L2.St → Hp → Prop), (∀ σ H, k σ H → k' σ H) → g x σ H k → g x σ H k'
theorem gk_name {vs : List Nat} {i : Nat} (h : i ∈ vs := by decide) : GK vs (gName i) := ⟨fun x σ H k q => ⟨wipe_set h, q⟩⟩
theorem gks_nil {vs : List Nat} : GKs vs gNil := ⟨fun x σ H k ⟨e, q⟩ => ⟨e, rfl, q⟩, fun x σ H k k' h ⟨e, q⟩ => ⟨e, h _ _ q⟩⟩
theorem gks_name {vs : List Nat} {i : Nat} {u : TGs} (h2 : GKs vs u) (h : i ∈ vs := by decide) : GKs vs (gCons (gName i) u) :=
  ⟨fun x σ H k ⟨v, r, e, q⟩ => ⟨v, r, e, h2.mono _ _ _ _ _ (fun σ2 H2 ⟨z, y⟩ => ⟨z.trans (wipe_set h), y⟩) (h2.keep _ _ _ _ q)⟩, fun x σ H k k' hh ⟨v, r, e, q⟩ => ⟨v, r, e, h2.mono _ _ _ _ _ hh q⟩⟩
theorem gk_tup {vs : List Nat} {K : PySem.W.Frag} {n : Nat} {u : TGs} (h : GKs vs u) : GK vs (gTup K n u) := ⟨fun x σ H k ⟨a, xs, e, q, l, z⟩ => ⟨a, xs, e, q, l, h.keep _ _ _ _ z⟩⟩
/-- the world with a list in the making at p -/
def Hs.at (w : Hs) (p : Addr) (o : HO) : Hs := ⟨w.F, w.al, upd w.H p o⟩
theorem Good.at {K : PySem.W.Frag} {w : Hs} {S : Sto} (g : Good K w S) {p : Addr} (o : HO) (hF : w.F p = none) (hA : p ∉ w.al) : Good K (w.at p o) S := by
  refine ⟨fun a x q => ?_, g.nd, g.len, fun n a c q1 q2 => ?_, fun a q => ?_⟩
  · show upd w.H p o a = some x
    rw [upd_ne (ne_of_none q hF)]; exact g.sub a x q
  · have hne : a ≠ p := fun z => hA (z ▸ List.mem_of_getElem? q1)
    cases c with
    | gone => exact True.intro
    | lst ds =>
      obtain ⟨h1, ys, h2, h3⟩ := g.cell n a _ q1 q2
      exact ⟨h1, ys, by show upd w.H p o a = _; rw [upd_ne hne]; exact h2, h3⟩
    | ins C fs =>
      obtain ⟨h1, dx, ys, h2, h3⟩ := g.cell n a _ q1 q2
      exact ⟨h1, dx, ys, by show upd w.H p o a = _; rw [upd_ne hne]; exact h2, h3⟩
    | dct ks =>
      obtain ⟨h1, us, h2, h3⟩ := g.cell n a _ q1 q2
      exact ⟨h1, us, by show upd w.H p o a = _; rw [upd_ne hne]; exact h2, h3⟩
    | dck ks =>
      obtain ⟨h1, us, h2, h3⟩ := g.cell n a _ q1 q2
      exact ⟨h1, us, by show upd w.H p o a = _; rw [upd_ne hne]; exact h2, h3⟩
    | lck o' us ks =>
      obtain ⟨h1, h2, h3⟩ := g.cell n a _ q1 q2
      exact ⟨h1, by show upd w.H p o a = _; rw [upd_ne hne]; exact h2, h3⟩
  · show upd w.H p o a ≠ none
    by_cases z : a = p
    · rw [z, upd_same]; exact fun z => nomatch z
    · rw [upd_ne z]; exact g.dom a q
theorem Ext.at {w0 w : Hs} (e : Ext w0 w) {p : Addr} (o : HO) (h0 : w0.H p = none) : Ext w0 (w.at p o) := by
  refine ⟨e.f, e.al, e.new, fun a x q n => ?_, fun a q => ?_⟩
  · show upd w.H p o a = some x
    rw [upd_ne (ne_of_none q h0)]; exact e.kp a x q n
  · show upd w.H p o a ≠ none
    by_cases z : a = p
    · rw [z, upd_same]; exact fun z => nomatch z
    · rw [upd_ne z]; exact e.dm a q
/-- an address that is neither frozen nor a cell stays so -/
theorem Ext.hid {w w' : Hs} (e : Ext w w') {p : Addr} {o : HO} (hH : w.H p = some o) (hF : w.F p = none) (hA : p ∉ w.al) : w'.H p = some o ∧ w'.F p = none ∧ p ∉ w'.al := by
  refine ⟨e.kp p o hH hA, ?_, fun z => ?_⟩
  · cases q : w'.F p with
    | none => rfl
    | some x =>
      rcases e.new p x q with z | z | z
      · rw [hF] at z; cases z
      · rw [hH] at z; cases z
      · exact absurd z hA
  · rcases e.old z with y | y
    · exact hA y
    · rw [hH] at y; cases y
theorem sem_lc {K : PySem.W.Frag} {wi : TI} {g : TG} {tt : TT} {te : TE} {I : TId} {G : TGd} {C : TB} {Te : TD} {vs : List Nat} {Fin : List D → Sto → KD → Prop} (hi : SemI K W wi I) (hg : SemG K g G) (hk : GK vs g) (ht : SemT K (fun _ _ _ _ => False) tt C) (he : SemE K (fun _ _ _ _ => False) te Te) (hf : FinOk Fin) :
    SemE K W (tLc wi g tt te vs) (dLc I G C Te vs Fin) := fun Γ S Φ Ψ σ w g0 sl h hx Q q =>
  hi Γ S _ _ σ w g0 sl h hx _ fun J src w1 S1 e1 g1 ok ⟨P, n, hn, h0, hl, hs, hd⟩ => fun p hp => by
    have hF1 := g1.notF hp
    have hA1 := g1.notA hp
    refine ⟨fun i m H' => m + i = n ∧ ∃ w' S' acc accV, H' = w'.H ∧ Ext w1 w' ∧ Good K w' S' ∧ w'.F p = none ∧ p ∉ w'.al ∧ w'.H p = some (.lst accV) ∧ Ra K w' accV acc ∧ P i acc S' ∧ acc.length ≤ i,
      ⟨n, by omega, w1.at p (.lst []), S1, [], [], rfl, (Ext.refl w1).at _ hp, g1.at _ hF1 hA1, hF1, hA1, upd_same, .nil, h0, Nat.le_refl _⟩, ?_⟩
    rintro i m H' ⟨hm, w', S', acc, accV, rfl, e', g', hF, hA, hH, hr, pp, hlen⟩
    obtain ⟨ds, hsrc, hlenD⟩ := hl i acc S' (by omega) pp
    have qq := ok w' S' ds i e' g' hsrc
    by_cases hlt : i < n
    · have hx' : ds[i]? = some ds[i] := List.getElem?_eq_getElem (by omega)
      obtain ⟨hgo, hy⟩ := qq.1 _ hx'
      refine .inr ⟨hgo, fun H2 => ∃ w2 S2 acc2 accV2, H2 = w2.H ∧ Ext w1 w2 ∧ Good K w2 S2 ∧ w2.F p = none ∧ p ∉ w2.al ∧ w2.H p = some (.lst accV2) ∧ Ra K w2 accV2 acc2 ∧ P (i + 1) acc2 S2 ∧ acc2.length ≤ i + 1, ?_, ?_⟩
      · rintro H2 ⟨w2, S2, acc2, accV2, r⟩
        exact ⟨m - 1, by omega, by omega, w2, S2, acc2, accV2, r⟩
      · intro x H2 hyl
        obtain ⟨w2, e2, g2, rfl, r2⟩ := hy x H2 hyl
        have sl2 : Slots K w2 (L2.wipe σ vs) (gwipe Γ vs) := (sl.ext ((e1.trans e').trans e2)).wipe vs
        have s1 := hk.keep x (L2.wipe σ vs) w2.H _ (hg _ (gwipe Γ vs) S' x (L2.wipe σ vs) w2 _ (fun σ2 H2 => tt σ2 H2 fun b H3 => if b = true then te σ2 H3 fun y H4 => ∃ acc, H4 p = some (.lst acc) ∧ acc.length < sizeLine ∧ (∃ w2 S2 acc2 accV2, upd H4 p (.lst (acc ++ [y])) = w2.H ∧ Ext w1 w2 ∧ Good K w2 S2 ∧ w2.F p = none ∧ p ∉ w2.al ∧ w2.H p = some (.lst accV2) ∧ Ra K w2 accV2 acc2 ∧ P (i + 1) acc2 S2 ∧ acc2.length ≤ i + 1)
          else ∃ w2 S2 acc2 accV2, H3 = w2.H ∧ Ext w1 w2 ∧ Good K w2 S2 ∧ w2.F p = none ∧ p ∉ w2.al ∧ w2.H p = some (.lst accV2) ∧ Ra K w2 accV2 acc2 ∧ P (i + 1) acc2 S2 ∧ acc2.length ≤ i + 1) g2 sl2 r2 (hs i acc S' ds _ pp hsrc hx') fun σ3 Γ3 w3 S3 e3 g3 sl3 h3 => ?_)
        · rw [wipe_wipe σ vs vs fun _ z => z] at s1
          exact s1
        · have e23 := e2.trans e3
          refine ht Γ3 S3 _ _ σ3 w3 g3 sl3 h3 (fun _ _ _ _ _ _ _ _ z => z) _ fun b w4 S4 e4 g4 h4 => ?_
          have e24 := e23.trans e4
          have ee4 := e'.trans e24
          obtain ⟨hH4, hF4, hA4⟩ := e24.hid hH hF hA
          cases b with
          | false => exact ⟨w4, S4, acc, accV, rfl, ee4, g4, hF4, hA4, hH4, e24.ra hr, h4, by omega⟩
          | true =>
            refine he Γ3 S4 _ _ σ3 w4 g4 (sl3.ext e4) h4 (fun _ _ _ _ _ _ _ _ z => z) _ fun y dy w5 S5 e5 g5 r5 h5 => ?_
            have e25 := e24.trans e5
            have ee5 := e'.trans e25
            obtain ⟨hH5, hF5, hA5⟩ := e25.hid hH hF hA
            refine ⟨accV, hH5, by rw [hr.length]; omega, w5.at p (.lst (accV ++ [y])), S5, acc ++ [dy], accV ++ [y], rfl, ee5.at _ hp, g5.at _ hF5 hA5, hF5, hA5, upd_same, RpA.append (e25.ra hr) (.cons r5 .nil), h5, by rw [List.length_append]; show acc.length + 1 ≤ i + 1; omega⟩
    · have hin : i = n := by omega
      subst hin
      refine .inl ⟨qq.2 (by omega), ?_⟩
      refine hf K w' S' acc Φ p accV (fun v H => Q v H) g' hH hF hA hr (hd acc S' pp) fun v d w2 S2 hF2 hN2 hal hHH g2 r2 h2 => q v d w2 S2 (e1.trans ?_) g2 r2 h2
      refine ⟨fun a o z => hF2 a o (e'.f a o z), ?_, fun a o z => ?_, fun a o z nz => by rw [hHH]; exact e'.kp a o z nz, fun a z => by rw [hHH]; exact e'.dm a z⟩
      · obtain ⟨β, eb, hb⟩ := e'.al
        rcases hal with z | z
        · exact ⟨β, by rw [z, eb], hb⟩
        · refine ⟨β ++ [p], by rw [z, eb, List.append_assoc], fun b hbm => ?_⟩
          rcases List.mem_append.mp hbm with y | y
          · exact hb b y
          · rw [List.mem_singleton.mp y]; exact hp
      · rcases hN2 a o z with y | y
        · exact e'.new a o y
        · subst y; exact .inr (.inl hp)
abbrev Bk (α : Type) := Shared → Hp → Addr → List (Str × Addr) → List Addr → α
theorem je_lc {elt tg iter : Expr} {ifs : List Expr} {scope : Scope} {own : List (Str × Nat)} {wi : TI} {g : Bk TG} {tt : Bk TT} {te : Bk TE} {I : TId} {G : TGd} {C : TB} {Te : TD} (Fin : List D → Sto → KD → Prop) (hf : FinOk Fin) (hc : X.calm = true) (hN : X.N.Nodup) (hi : JI X W tg iter wi I) (ok : BlkOk X.N X.env.scope scope own)
    (hg : ∀ (s : Shared) (H : Hp) (C : Addr) (cl : List (Str × Addr)) (fp : List Addr), JG (X.blk s H scope (compEnvC scope cl C X.env) fp) tg (g s H C cl fp) G) (hk : GK (own.map (·.2)) (g {} (fun _ => none) 0 [] [])) (ht : ∀ (s : Shared) (H : Hp) (C' : Addr) (cl : List (Str × Addr)) (fp : List Addr), JTs (X.blk s H scope (compEnvC scope cl C' X.env) fp) ifs (tt s H C' cl fp) C)
    (he : ∀ (s : Shared) (H : Hp) (C : Addr) (cl : List (Str × Addr)) (fp : List Addr), JE (X.blk s H scope (compEnvC scope cl C X.env) fp) (fun _ _ _ _ => False) elt (te s H C cl fp) Te) (hs : ∀ x, foldedSetIterable iter X.env x = pure x := by intro _; rfl)
    (eg : ∀ s H C cl fp, g s H C cl fp = g {} (fun _ => none) 0 [] [] := by intros; rfl) (et : ∀ s H C cl fp, tt s H C cl fp = tt {} (fun _ => none) 0 [] [] := by intros; rfl) (ee : ∀ s H C cl fp, te s H C cl fp = te {} (fun _ => none) 0 [] [] := by intros; rfl) :
    JE X W (.ListComp elt [⟨tg, iter, ifs, 0⟩] scope pos) (tLc wi (g {} (fun _ => none) 0 [] []) (tt {} (fun _ => none) 0 [] []) (te {} (fun _ => none) 0 [] []) (own.map (·.2))) (dLc I G C Te (own.map (·.2)) Fin) :=
  ⟨pe_lc hc hN hi.pi ok (fun s H C cl fp => eg s H C cl fp ▸ (hg s H C cl fp).pg) (fun s H C cl fp => et s H C cl fp ▸ (ht s H C cl fp).pts) (fun s H C cl fp => ee s H C cl fp ▸ (he s H C cl fp).pe) hs,
    sem_lc hi.sem (hg {} (fun _ => none) 0 [] []).sem hk (ht {} (fun _ => none) 0 [] []).sem (he {} (fun _ => none) 0 [] []).sem hf⟩
theorem js_setLc (i : Nat) {y : Str} {py spos : Pos} {elt tg iter : Expr} {ifs : List Expr} {scope : Scope} {own : List (Str × Nat)} {wi : TI} {g : Bk TG} {tt : Bk TT} {te : Bk TE} {I : TId} {G : TGd} {C : TB} {Te : TD} (Fin : List D → Sto → KD → Prop) (hf : FinOk Fin) (hc : X.calm = true) (hN : X.N.Nodup) (hi : JI X W tg iter wi I) (ok : BlkOk X.N X.env.scope scope own)
    (hg : ∀ (s : Shared) (H : Hp) (C : Addr) (cl : List (Str × Addr)) (fp : List Addr), JG (X.blk s H scope (compEnvC scope cl C X.env) fp) tg (g s H C cl fp) G) (hk : GK (own.map (·.2)) (g {} (fun _ => none) 0 [] [])) (ht : ∀ (s : Shared) (H : Hp) (C' : Addr) (cl : List (Str × Addr)) (fp : List Addr), JTs (X.blk s H scope (compEnvC scope cl C' X.env) fp) ifs (tt s H C' cl fp) C)
    (he : ∀ (s : Shared) (H : Hp) (C : Addr) (cl : List (Str × Addr)) (fp : List Addr), JE (X.blk s H scope (compEnvC scope cl C X.env) fp) (fun _ _ _ _ => False) elt (te s H C cl fp) Te)
    (hy : X.N[i]? = some y := by rfl) (hyl : X.env.scope.names.lookup y = some .local := by rfl)
    (hsw : swapsWith (.ListComp elt [⟨tg, iter, ifs, 0⟩] scope pos) (some (.Name y py)) spos.line X.env = pure true := by exact sw_true rfl rfl rfl (by decide +kernel)) (hs : ∀ x, foldedSetIterable iter X.env x = pure x := by intro _; rfl)
    (eg : ∀ s H C cl fp, g s H C cl fp = g {} (fun _ => none) 0 [] [] := by intros; rfl) (et : ∀ s H C cl fp, tt s H C cl fp = tt {} (fun _ => none) 0 [] [] := by intros; rfl) (ee : ∀ s H C cl fp, te s H C cl fp = te {} (fun _ => none) 0 [] [] := by intros; rfl) :
    JS X W (.Assign [.Name y py] (.ListComp elt [⟨tg, iter, ifs, 0⟩] scope pos) spos) (tAsg (tLc wi (g {} (fun _ => none) 0 [] []) (tt {} (fun _ => none) 0 [] []) (te {} (fun _ => none) 0 [] []) (own.map (·.2))) (gName i)) (sAsg (dLc I G C Te (own.map (·.2)) Fin) (nmG i)) :=
  ⟨ps_setLc hc hN hy hyl hsw hi.pi ok (fun s H C cl fp => eg s H C cl fp ▸ (hg s H C cl fp).pg) (fun s H C cl fp => et s H C cl fp ▸ (ht s H C cl fp).pts) (fun s H C cl fp => ee s H C cl fp ▸ (he s H C cl fp).pe) hs,
    sem_asg (sem_lc hi.sem (hg {} (fun _ => none) 0 [] []).sem hk (ht {} (fun _ => none) 0 [] []).sem (he {} (fun _ => none) 0 [] []).sem hf) (sem_nmG i)⟩
end
end DL
namespace DL
open PySem PySem.Spec PyProof.Rows L2
/-- the items of a list; of any list that may be read -/
def asL (S : Sto) : D → Option (List D)
  | .lst ds => some ds
  | .own h => match S[h]? with
    | some (.lst ds) => some ds
    | _ => none
  | _ => none
def asQ (S : Sto) : D → Option (List D)
  | .lst ds => some ds
  | .sq ds => some ds
  | .own h => match S[h]? with
    | some (.lst ds) => some ds
    | _ => none
  | _ => none
section
variable {K : PySem.W.Frag} {w : Hs} {S : Sto}
theorem asL_own {h : Nat} {ds : List D} (e : asL S (.own h) = some ds) : S[h]? = some (.lst ds) := by
  have e2 : (match S[h]? with
    | some (.lst ds) => some ds
    | _ => none) = some ds := e
  cases q : S[h]? with
  | none => rw [q] at e2; cases e2
  | some c =>
    rw [q] at e2
    cases c with
    | lst es => rw [Option.some.inj e2]
    | ins _ _ => cases e2
    | dct _ => cases e2
    | dck _ => cases e2
    | lck _ _ _ => cases e2
    | gone => cases e2
theorem own_at (g : Good K w S) {h : Nat} {v : V} {ds : List D} (r : Rv K w v (.own h)) (e : S[h]? = some (.lst ds)) : ∃ a xs, v = .ref a ∧ w.al[h]? = some a ∧ w.H a = some (.lst xs) ∧ Ra K w xs ds := by
  cases r with
  | @own h a q =>
    obtain ⟨_, xs, h2, h3⟩ := g.cell h a _ q e
    exact ⟨a, xs, rfl, q, h2, h3⟩
theorem asL_at (g : Good K w S) {v : V} {d : D} {ds : List D} (r : Rv K w v d) (e : asL S d = some ds) : ∃ a xs, v = .ref a ∧ w.H a = some (.lst xs) ∧ Ra K w xs ds := by
  cases d with
  | lst es =>
    have e2 : es = ds := Option.some.inj e
    subst e2
    cases r with
    | lst h1 h2 => exact ⟨_, _, rfl, g.sub _ _ h1, h2⟩
  | own h =>
    obtain ⟨a, xs, h1, _, h2, h3⟩ := own_at g r (asL_own e)
    exact ⟨a, xs, h1, h2, h3⟩
  | _ => cases e
theorem asQ_at (g : Good K w S) {v : V} {d : D} {ds : List D} (r : Rv K w v d) (e : asQ S d = some ds) : ∃ a xs, v = .ref a ∧ SqL K w.H a xs ∧ Ra K w xs ds := by
  cases d with
  | sq es =>
    have e2 : es = ds := Option.some.inj e
    subst e2
    cases r with
    | sq h1 h2 => exact ⟨_, _, rfl, sameSql g.sub h1, h2⟩
  | lst es =>
    obtain ⟨a, xs, h1, h2, h3⟩ := asL_at g (ds := ds) r e
    exact ⟨a, xs, h1, .inl (.inl h2), h3⟩
  | own h =>
    obtain ⟨a, xs, h1, h2, h3⟩ := asL_at g (ds := ds) r e
    exact ⟨a, xs, h1, .inl (.inl h2), h3⟩
  | _ => cases e
theorem ra_ints : ∀ {xs : List V} {ns : List Int}, Ra K w xs (ns.map D.int) → xs = ns.map V.int
  | _, [], h => by cases h; rfl
  | _, n :: ns, h => by
    cases h with
    | cons h1 h2 => rw [rv_int h1, ra_ints h2]; rfl
theorem ra_bls : ∀ {xs : List V} {ns : List Bool}, Ra K w xs (ns.map D.bl) → xs = ns.map V.bl
  | _, [], h => by cases h; rfl
  | _, n :: ns, h => by
    cases h with
    | cons h1 h2 => rw [rv_bl h1, ra_bls h2]; rfl
end
def iOp (C : Int → Int → Prop) (g : Int → Int → D) (x y : D) (S : Sto) (Φ : KD) : Prop := match x, y with
  | .int i, .int j => C i j ∧ Φ S (g i j)
  | _, _ => False
theorem opd_i {K : PySem.W.Frag} {C : Int → Int → Prop} {g : Int → Int → D} {gv : Int → Int → V} (hg : ∀ i j (w : Hs), Rv K w (gv i j) (g i j)) : OpD K (rI C gv) (iOp C g) := fun w S x y u v Φ Q g0 r1 r2 h q => by
  cases u with
  | int i =>
    cases v with
    | int j => exact ⟨i, j, rv_int r1, rv_int r2, h.1, q _ _ w S (Ext.refl w) g0 (hg i j w) h.2⟩
    | _ => exact h.elim
  | _ => cases v <;> exact h.elim
def iOp0 (g : Int → Int → D) (x y : D) (S : Sto) (Φ : KD) : Prop := match x, y with
  | .int i, .int j => Φ S (g i j)
  | _, _ => False
theorem opd_i0 {K : PySem.W.Frag} {g : Int → Int → D} {gv : Int → Int → V} (hg : ∀ i j (w : Hs), Rv K w (gv i j) (g i j)) : OpD K (rI0 gv) (iOp0 g) := fun w S x y u v Φ Q g0 r1 r2 h q => by
  cases u with
  | int i =>
    cases v with
    | int j => exact ⟨i, j, rv_int r1, rv_int r2, q _ _ w S (Ext.refl w) g0 (hg i j w) h⟩
    | _ => exact h.elim
  | _ => cases v <;> exact h.elim
/-- + of ints, texts, lists -/
def dAdd (x y : D) (S : Sto) (Φ : KD) : Prop := match x, y with
  | .int i, .int j => Φ S (.int (i + j))
  | .str a, .str b => a.length + b.length ≤ sizeLine ∧ Φ S (.str (a ++ b))
  | x, y => ∃ xs ys, asL S x = some xs ∧ asL S y = some ys ∧ xs.length + ys.length ≤ sizeLine ∧ Φ S (.lst (xs ++ ys))
def rAddA : R2 := fun x y H Q => rI0 (fun i j => .int (i + j)) x y H Q ∨ (∃ i j, x = .str i ∧ y = .str j ∧ i.length + j.length ≤ sizeLine ∧ Q (.str (i ++ j)) H) ∨ rCat x y H Q
theorem op_addA {X : Cx} : OpR X (binaryOp .Add) rAddA := op_add.or (op_add_str.or op_cat)
theorem add_seq {K : PySem.W.Frag} {w : Hs} {S : Sto} {x y : V} {u v : D} {Φ : KD} {Q : VK} (g : Good K w S) (r1 : Rv K w x u) (r2 : Rv K w y v) (h : ∃ xs ys, asL S u = some xs ∧ asL S v = some ys ∧ xs.length + ys.length ≤ sizeLine ∧ Φ S (.lst (xs ++ ys))) (q : OkD K w Φ Q) : rAddA x y w.H Q := by
  obtain ⟨xs, ys, e1, e2, hl, hΦ⟩ := h
  obtain ⟨a, us, rfl, h1, h2⟩ := asL_at g r1 e1
  obtain ⟨b, vs, rfl, h3, h4⟩ := asL_at g r2 e2
  exact .inr (.inr ⟨a, b, us, vs, rfl, rfl, h1, h3, by rw [h2.length, h4.length]; exact hl, new_lst g q (h2.append h4) hΦ⟩)
theorem opd_add {K : PySem.W.Frag} : OpD K rAddA dAdd := fun w S x y u v Φ Q g r1 r2 h q => by
  cases u with
  | int i =>
    cases v with
    | int j => exact .inl ⟨i, j, rv_int r1, rv_int r2, q _ _ w S (Ext.refl w) g (.int _) h⟩
    | _ => exact add_seq g r1 r2 h q
  | str i =>
    cases v with
    | str j => exact .inr (.inl ⟨i, j, rv_str r1, rv_str r2, h.1, q _ _ w S (Ext.refl w) g (.str _) h.2⟩)
    | _ => exact add_seq g r1 r2 h q
  | _ => cases v <;> exact add_seq g r1 r2 h q
/-- * of ints, a list by an int -/
def CMulA (i j : Int) : Prop := CMul i j ∨ CMulW i j
def dMul (x y : D) (S : Sto) (Φ : KD) : Prop := match x, y with
  | .int i, .int j => CMulA i j ∧ Φ S (.int (i * j))
  | x, .int k => ∃ xs, asL S x = some xs ∧ -(2 ^ 63) ≤ k ∧ k < 2 ^ 63 ∧ xs.length * k.toNat ≤ sizeLine ∧ Φ S (.lst ((List.replicate k.toNat xs).flatten))
  | _, _ => False
def rMulA : R2 := fun x y H Q => rI CMul (fun i j => .int (i * j)) x y H Q ∨ rI CMulW (fun i j => .int (i * j)) x y H Q ∨ rRep x y H Q
theorem op_mulA {X : Cx} : OpR X (binaryOp .Mult) rMulA := op_mul.or (op_mulW.or op_rep)
theorem ra_rep {K : PySem.W.Frag} {w : Hs} {vs : List V} {ds : List D} (r : Ra K w vs ds) : ∀ k : Nat, Ra K w (List.replicate k vs).flatten (List.replicate k ds).flatten
  | 0 => .nil
  | k + 1 => by
    rw [List.replicate_succ, List.replicate_succ, List.flatten_cons, List.flatten_cons]
    exact r.append (ra_rep r k)
theorem mul_seq {K : PySem.W.Frag} {w : Hs} {S : Sto} {x y : V} {u : D} {k : Int} {Φ : KD} {Q : VK} (g : Good K w S) (r1 : Rv K w x u) (r2 : Rv K w y (.int k)) (h : ∃ xs, asL S u = some xs ∧ -(2 ^ 63) ≤ k ∧ k < 2 ^ 63 ∧ xs.length * k.toNat ≤ sizeLine ∧ Φ S (.lst ((List.replicate k.toNat xs).flatten))) (q : OkD K w Φ Q) : rMulA x y w.H Q := by
  obtain ⟨xs, e1, hl1, hl2, hl3, hΦ⟩ := h
  obtain ⟨a, us, rfl, h1, h2⟩ := asL_at g r1 e1
  exact .inr (.inr ⟨a, k, us, rfl, rv_int r2, h1, hl1, hl2, by rw [h2.length]; exact hl3, new_lst g q (ra_rep h2 _) hΦ⟩)
theorem opd_mul {K : PySem.W.Frag} : OpD K rMulA dMul := fun w S x y u v Φ Q g r1 r2 h q => by
  cases v with
  | int j =>
    cases u with
    | int i =>
      have q2 := q (.int (i * j)) (.int (i * j)) w S (Ext.refl w) g (.int _) h.2
      rcases h.1 with c | c
      · exact .inl ⟨i, j, rv_int r1, rv_int r2, c, q2⟩
      · exact .inr (.inl ⟨i, j, rv_int r1, rv_int r2, c, q2⟩)
    | _ => exact mul_seq g r1 r2 h q
  | _ => cases u <;> exact h.elim
def dSub := iOp0 fun i j => .int (i - j)
theorem opd_sub {K : PySem.W.Frag} : OpD K (rI0 fun i j => .int (i - j)) dSub := opd_i0 fun _ _ _ => .int _
def dMod := iOp (fun _ j => 0 < j) fun i j => .int (i % j)
theorem opd_mod {K : PySem.W.Frag} : OpD K (rI (fun _ j => 0 < j) fun i j => .int (i % j)) dMod := opd_i fun _ _ _ => .int _
def dDiv := iOp CDivW fun i j => .int (i / j)
theorem opd_div {K : PySem.W.Frag} : OpD K (rI CDivW fun i j => .int (i / j)) dDiv := opd_i fun _ _ _ => .int _
/-- ** of an int of a few thousand bits by a small one -/
def CPowW (i j : Int) : Prop := 0 ≤ j ∧ j ≤ 1000 ∧ i.natAbs < 2 ^ 100000
theorem op_powW {X : Cx} : OpR X (binaryOp .Pow) (rI CPowW fun i j => .int (i ^ j.toNat)) := opI fun i j _ _ _ _ _ hc q => by
  obtain ⟨h0, h1, h2⟩ := hc
  refine PyProof.Rows.pow_int h0 ?_ q
  have b : Builtin.Int.intBits i ≤ 100000 := by
    unfold Builtin.Int.intBits
    split
    · omega
    · have := PySem.Flt.log2_lt_of (by decide : 0 < 100000) h2
      omega
  have e : (2 : Int) ^ 27 = 134217728 := by decide
  rw [e]
  have h3 : (Builtin.Int.intBits i : Int) ≤ 100000 := by omega
  have h4 : (Builtin.Int.intBits i : Int) * j ≤ 100000 * 1000 := Int.mul_le_mul h3 h1 h0 (by decide)
  omega
def dPow := iOp CPowW fun i j => .int (i ^ j.toNat)
theorem opd_pow {K : PySem.W.Frag} : OpD K (rI CPowW fun i j => .int (i ^ j.toNat)) dPow := opd_i fun _ _ _ => .int _
def dLt := iOp0 fun i j => .bl (decide (i < j))
def dLe := iOp0 fun i j => .bl (decide (i ≤ j))
def dGt := iOp0 fun i j => .bl (decide (j < i))
def dGe := iOp0 fun i j => .bl (decide (j ≤ i))
theorem opd_lt {K : PySem.W.Frag} : OpD K (rI0 fun i j => .bl (decide (i < j))) dLt := opd_i0 fun _ _ _ => .bl _
theorem opd_le {K : PySem.W.Frag} : OpD K (rI0 fun i j => .bl (decide (i ≤ j))) dLe := opd_i0 fun _ _ _ => .bl _
theorem opd_gt {K : PySem.W.Frag} : OpD K (rI0 fun i j => .bl (decide (j < i))) dGt := opd_i0 fun _ _ _ => .bl _
theorem opd_ge {K : PySem.W.Frag} : OpD K (rI0 fun i j => .bl (decide (j ≤ i))) dGe := opd_i0 fun _ _ _ => .bl _
def uNeg (x : D) (S : Sto) (Φ : KD) : Prop := match x with
  | .int i => Φ S (.int (-i))
  | _ => False
def dUn (f : D → Sto → KD → Prop) (T : TD) : TD := fun Γ S Φ Ψ => T Γ S (fun S1 d => f d S1 Φ) Ψ
theorem je_neg {X : Cx} {W : WX} {a : Expr} {pos : Pos} {ta : TE} {Ta : TD} (ha : JE X W a ta Ta) : JE X W (.UnaryOp .USub a pos) (tUn (rU fun i => .int (-i)) ta) (dUn uNeg Ta) := ⟨pe_un un_neg ha.pe, fun Γ S Φ Ψ σ w g sl h hx Q q =>
  ha.sem Γ S _ Ψ σ w g sl h hx _ fun v d w1 S1 e1 g1 r1 h1 => by
    cases d with
    | int i => exact ⟨i, rv_int r1, q _ _ w1 S1 e1 g1 (.int _) h1⟩
    | _ => exact h1.elim⟩
mutual
inductive PyR (S : Sto) : D → PyData → Prop
  | non : PyR S .non .none
  | bl (b : Bool) : PyR S (.bl b) (.bool b)
  | int (i : Int) : PyR S (.int i) (.int i)
  | str (x : Str) : PyR S (.str x) (.str x)
  | lst {ds : List D} {ps : List PyData} : PyRA S ds ps → PyR S (.lst ds) (.list ps)
  | sq {ds : List D} {ps : List PyData} : PyRA S ds ps → PyR S (.sq ds) (.list ps)
  | tup {ds : List D} {ps : List PyData} : PyRA S ds ps → PyR S (.tup ds) (.tuple ps)
  | own {h : Nat} {ds : List D} {ps : List PyData} : S[h]? = some (.lst ds) → PyRA S ds ps → PyR S (.own h) (.list ps)
inductive PyRA (S : Sto) : List D → List PyData → Prop
  | nil : PyRA S [] []
  | cons {d : D} {ds : List D} {p : PyData} {ps : List PyData} : PyR S d p → PyRA S ds ps → PyRA S (d :: ds) (p :: ps)
end
section
variable {K : PySem.W.Frag} {w : Hs} {S : Sto}
mutual
theorem dp_of (g : Good K w S) : ∀ (p : PyData) (d : D) (v : V), PyR S d p → Rv K w v d → Dp K w.H v p
  | .none, _, _, h, r => by cases h; cases r; exact .non
  | .bool _, _, _, h, r => by cases h; cases r; exact .bl _
  | .int _, _, _, h, r => by cases h; cases r; exact .int _
  | .str _, _, _, h, r => by cases h; cases r; exact .str _
  | .list ps, _, _, h, r => by
    cases h with
    | lst h1 =>
      cases r with
      | lst h2 h3 => exact .lst (.inl (.inl (g.sub _ _ h2))) (dpa_of g ps _ _ h1 h3)
    | sq h1 =>
      cases r with
      | sq h2 h3 => exact .lst (sameSql g.sub h2) (dpa_of g ps _ _ h1 h3)
    | own h1 h2 =>
      obtain ⟨a, xs, rfl, _, h3, h4⟩ := own_at g r h1
      exact .lst (.inl (.inl h3)) (dpa_of g ps _ _ h2 h4)
  | .tuple ps, _, _, h, r => by
    cases h with
    | tup h1 =>
      cases r with
      | tup h2 h3 => exact .tup (sameSqt g.sub h2) (dpa_of g ps _ _ h1 h3)
  | .dict _, _, _, h, _ => by cases h
theorem dpa_of (g : Good K w S) : ∀ (ps : List PyData) (ds : List D) (vs : List V), PyRA S ds ps → Ra K w vs ds → DpAll K w.H vs ps
  | [], _, _, h, r => by cases h; cases r; exact .nil
  | p :: ps, _, _, h, r => by
    cases h with
    | cons h1 h2 =>
      cases r with
      | cons r1 r2 => exact .cons (dp_of g p _ _ h1 r1) (dpa_of g ps _ _ h2 r2)
end
end
def dEq (x y : D) (S : Sto) (Φ : KD) : Prop := ∃ p q, PyR S x p ∧ PyR S y q ∧ SeqAt.shaped p = true ∧ SeqAt.shaped q = true ∧ Φ S (.bl (PyData.eqv p q))
def dNe (x y : D) (S : Sto) (Φ : KD) : Prop := ∃ p q, PyR S x p ∧ PyR S y q ∧ SeqAt.shaped p = true ∧ SeqAt.shaped q = true ∧ Φ S (.bl (!PyData.eqv p q))
theorem opd_eq {K : PySem.W.Frag} : OpD K (rEqD K) dEq := fun w S x y u v Φ Q g r1 r2 ⟨p, p2, h1, h2, h3, h4, h5⟩ q => ⟨p, p2, dp_of g p u x h1 r1, dp_of g p2 v y h2 r2, h3, h4, q _ _ w S (Ext.refl w) g (.bl _) h5⟩
theorem opd_ne {K : PySem.W.Frag} : OpD K (rNeD K) dNe := fun w S x y u v Φ Q g r1 r2 ⟨p, p2, h1, h2, h3, h4, h5⟩ q => ⟨p, p2, dp_of g p u x h1 r1, dp_of g p2 v y h2 r2, h3, h4, q _ _ w S (Ext.refl w) g (.bl _) h5⟩
/-- is None -/
def isNon : D → Bool
  | .non => true
  | _ => false
theorem dec_non {K : PySem.W.Frag} {w : Hs} {v : V} {d : D} (r : Rv K w v d) : decide (v = .non) = isNon d := by
  cases r <;> rfl
def dIsN (x y : D) (S : Sto) (Φ : KD) : Prop := match y with
  | .non => Φ S (.bl (isNon x))
  | _ => False
def dNotN (x y : D) (S : Sto) (Φ : KD) : Prop := match y with
  | .non => Φ S (.bl (!isNon x))
  | _ => False
theorem opd_isN {K : PySem.W.Frag} : OpD K (fun x y H Q => y = .non ∧ Q (.bl (decide (x = .non))) H) dIsN := fun w S x y u v Φ Q g r1 r2 h q => by
  cases v with
  | non => exact ⟨rv_non r2, by rw [dec_non r1]; exact q _ _ w S (Ext.refl w) g (.bl _) h⟩
  | _ => exact h.elim
theorem opd_notN {K : PySem.W.Frag} : OpD K (fun x y H Q => y = .non ∧ Q (.bl (!decide (x = .non))) H) dNotN := fun w S x y u v Φ Q g r1 r2 h q => by
  cases v with
  | non => exact ⟨rv_non r2, by rw [dec_non r1]; exact q _ _ w S (Ext.refl w) g (.bl _) h⟩
  | _ => exact h.elim
/-- in, not in: a list or tuple of flat things -/
def flatD : D → Bool
  | .non => true
  | .bl _ => true
  | .int _ => true
  | .str _ => true
  | _ => false
def eqD : D → D → Bool
  | .non, .non => true
  | .bl a, .bl b => a == b
  | .bl a, .int b => (if a then 1 else 0) == b
  | .int a, .bl b => a == (if b then 1 else 0)
  | .int a, .int b => a == b
  | .str a, .str b => a == b
  | _, _ => false
def asS (S : Sto) : D → Option (List D)
  | .tup ds => some ds
  | d => asQ S d
theorem flat_of {K : PySem.W.Frag} {w : Hs} {v : V} {d : D} (r : Rv K w v d) (h : flatD d = true) : flatV v = true := by
  cases d <;> first | (cases r; rfl) | cases h
theorem eq_of {K : PySem.W.Frag} {w : Hs} {v u : V} {d e : D} (r : Rv K w v d) (q : Rv K w u e) (h : flatD d = true) (h2 : flatD e = true) : eqV v u = eqD d e := by
  cases d with
  | non => cases e <;> (first | (cases h2; done) | (cases r; cases q; rfl))
  | bl _ => cases e <;> (first | (cases h2; done) | (cases r; cases q; rfl))
  | int _ => cases e <;> (first | (cases h2; done) | (cases r; cases q; rfl))
  | str _ => cases e <;> (first | (cases h2; done) | (cases r; cases q; rfl))
  | _ => cases h
theorem flats_of {K : PySem.W.Frag} {w : Hs} : ∀ {vs : List V} {ds : List D}, Ra K w vs ds → ds.all flatD = true → vs.all flatV = true
  | _, _, .nil, _ => rfl
  | _, _, .cons r t, h => by
    rw [List.all_cons, Bool.and_eq_true] at h ⊢
    exact ⟨flat_of r h.1, flats_of t h.2⟩
theorem asS_at {K : PySem.W.Frag} {w : Hs} {S : Sto} (g : Good K w S) {v : V} {d : D} {ds : List D} (r : Rv K w v d) (e : asS S d = some ds) : ∃ a xs, v = .ref a ∧ (SqL K w.H a xs ∨ SqT K w.H a xs) ∧ Ra K w xs ds := by
  cases d with
  | tup es =>
    have e2 : es = ds := Option.some.inj e
    subst e2
    cases r with
    | tup h1 h2 => exact ⟨_, _, rfl, .inr (sameSqt g.sub h1), h2⟩
  | sq es =>
    obtain ⟨a, xs, h1, h2, h3⟩ := asQ_at g (ds := ds) r e
    exact ⟨a, xs, h1, .inl h2, h3⟩
  | lst es =>
    obtain ⟨a, xs, h1, h2, h3⟩ := asQ_at g (ds := ds) r e
    exact ⟨a, xs, h1, .inl h2, h3⟩
  | own h =>
    obtain ⟨a, xs, h1, h2, h3⟩ := asQ_at g (ds := ds) r e
    exact ⟨a, xs, h1, .inl h2, h3⟩
  | _ => cases e
def dIx (x y : D) (S : Sto) (Φ : KD) : Prop := match y with
  | .int i => (match x with
    | .str z => z.length ≤ sizeLine ∧ ∃ c, atI z.cps.toList i = some c ∧ Φ S (.str ⟨#[c]⟩)
    | x => ∃ ds d, asS S x = some ds ∧ atI ds i = some d ∧ Φ S d)
  | _ => False
theorem atI_of {K : PySem.W.Frag} {w : Hs} {vs : List V} {ds : List D} {i : Int} {d : D} (r : Ra K w vs ds) (h : atI ds i = some d) : ∃ v, atI vs i = some v ∧ Rv K w v d := by
  unfold atI at h ⊢
  rw [r.length]
  cases q : ixN ds.length i with
  | none => rw [q] at h; cases h
  | some j =>
    rw [q] at h
    exact r.get h
theorem ix_seqD {K : PySem.W.Frag} {w : Hs} {S : Sto} {x y : V} {u : D} {i : Int} {Φ : KD} {Q : VK} (g : Good K w S) (r1 : Rv K w x u) (r2 : Rv K w y (.int i)) (h : ∃ ds d, asS S u = some ds ∧ atI ds i = some d ∧ Φ S d) (q : OkD K w Φ Q) : rIx K x y w.H Q := by
  obtain ⟨ds, d, e, h1, h2⟩ := h
  obtain ⟨a, xs, rfl, hs, ra⟩ := asS_at g r1 e
  obtain ⟨v, h3, r3⟩ := atI_of ra h1
  have qq := q v d w S (Ext.refl w) g r3 h2
  rcases hs with hs | hs
  · exact .inl ⟨a, xs, i, v, rfl, rv_int r2, hs, h3, qq⟩
  · exact .inr (.inl ⟨a, xs, i, v, rfl, rv_int r2, hs, h3, qq⟩)
theorem opd_ix {K : PySem.W.Frag} : OpD K (rIx K) dIx := fun w S x y u v Φ Q g r1 r2 h q => by
  cases v with
  | int i =>
    cases u with
    | str z =>
      obtain ⟨h1, c, h2, h3⟩ := h
      exact .inr (.inr ⟨z, i, c, rv_str r1, rv_int r2, h1, h2, q _ _ w S (Ext.refl w) g (.str _) h3⟩)
    | _ => exact ix_seqD g r1 r2 h q
  | _ => cases u <;> exact h.elim
/-- the items of a slice -/
def cutD {α : Type} (xs : List α) (lo hi : Option Int) : List α := (xs.drop (HT.sIx xs.length 0 lo)).take (HT.sIx xs.length xs.length hi - HT.sIx xs.length 0 lo)
theorem ra_cut {K : PySem.W.Frag} {w : Hs} {vs : List V} {ds : List D} (r : Ra K w vs ds) (lo hi : Option Int) : Ra K w (cutV vs lo hi) (cutD ds lo hi) := by
  unfold cutV cutD
  rw [r.length]
  exact (r.drop _).take _
def dSlL (d : D) (lo hi : Option Int) (S : Sto) (Φ : KD) : Prop := ∃ ds, asQ S d = some ds ∧ Φ S (.lst (cutD ds lo hi))
theorem sld_l {K : PySem.W.Frag} : SlD K (rSlL K) dSlL := fun w S v d lo hi Φ Q g r ⟨ds, e, h⟩ q => by
  obtain ⟨a, xs, rfl, h1, h2⟩ := asQ_at g r e
  exact ⟨a, xs, rfl, h1, new_lst g q (ra_cut h2 lo hi) h⟩
def rLen (K : PySem.W.Frag) : List V → Hp → VK → Prop := fun xs H Q => (∃ p ys, xs = [.ref p] ∧ (SqL K H p ys ∨ SqT K H p ys) ∧ Q (.int ys.length) H) ∨ ∃ z, xs = [.str z] ∧ z.length ≤ sizeLine ∧ Q (.int z.length) H
theorem call_lenA {X : Cx} : CallR X (.builtin "len") (rLen X.K) := call_len_seq.or call_len_str
def cLen (ds : List D) (S : Sto) (Φ : KD) : Prop := match ds with
  | [.str z] => z.length ≤ sizeLine ∧ Φ S (.int z.length)
  | [d] => ∃ xs, asS S d = some xs ∧ Φ S (.int xs.length)
  | _ => False
theorem len_seqD {K : PySem.W.Frag} {w : Hs} {S : Sto} {vs : List V} {d : D} {Φ : KD} {Q : VK} (g : Good K w S) (r : Ra K w vs [d]) (h : ∃ xs, asS S d = some xs ∧ Φ S (.int xs.length)) (q : OkD K w Φ Q) : rLen K vs w.H Q := by
  obtain ⟨xs, e, h⟩ := h
  cases r with
  | cons r1 r2 =>
    cases r2
    obtain ⟨a, ys, rfl, hs, ra⟩ := asS_at g r1 e
    exact .inl ⟨a, ys, rfl, hs, by rw [ra.length]; exact q _ _ w S (Ext.refl w) g (.int _) h⟩
theorem cd_len {K : PySem.W.Frag} : CallD K (rLen K) cLen := fun w S vs ds Φ Q g r h q => by
  cases ds with
  | nil => exact h.elim
  | cons d rest =>
    cases rest with
    | cons e t => cases d <;> exact h.elim
    | nil =>
      cases d with
      | str z =>
        cases r with
        | cons r1 r2 =>
          cases r2
          exact .inr ⟨z, by rw [rv_str r1], h.1, q _ _ w S (Ext.refl w) g (.int _) h.2⟩
      | _ => exact len_seqD g r h q
def cAbs (ds : List D) (S : Sto) (Φ : KD) : Prop := match ds with
  | [.int i] => Φ S (.int (if i < 0 then -i else i))
  | _ => False
def c2I (f : Int → Int → D) (ds : List D) (S : Sto) (Φ : KD) : Prop := match ds with
  | [.int i, .int j] => Φ S (f i j)
  | _ => False
theorem cd_abs {K : PySem.W.Frag} : CallD K (fun xs H Q => ∃ i, xs = [.int i] ∧ Q (.int (if i < 0 then -i else i)) H) cAbs := fun w S vs ds Φ Q g r h q => by
  cases ds with
  | nil => exact h.elim
  | cons d t =>
    cases t with
    | cons _ _ => cases d <;> exact h.elim
    | nil =>
      cases d with
      | int i =>
        cases r with
        | cons r1 r2 => cases r2; exact ⟨i, by rw [rv_int r1], q _ _ w S (Ext.refl w) g (.int _) h⟩
      | _ => exact h.elim
theorem cd_2I {K : PySem.W.Frag} {f : Int → Int → D} {fv : Int → Int → V} (hf : ∀ i j (w : Hs), Rv K w (fv i j) (f i j)) : CallD K (fun xs H Q => ∃ i j, xs = [.int i, .int j] ∧ Q (fv i j) H) (c2I f) := fun w S vs ds Φ Q g r h q => by
  cases ds with
  | nil => exact h.elim
  | cons d t =>
    cases t with
    | nil => cases d <;> exact h.elim
    | cons e t2 =>
      cases t2 with
      | cons _ _ => cases d <;> cases e <;> exact h.elim
      | nil =>
        cases d with
        | int i =>
          cases e with
          | int j =>
            cases r with
            | cons r1 r2 =>
              cases r2 with
              | cons r3 r4 => cases r4; exact ⟨i, j, by rw [rv_int r1, rv_int r3], q _ _ w S (Ext.refl w) g (hf i j w) h⟩
          | _ => exact h.elim
        | _ => cases e <;> exact h.elim
def cMax2 := c2I fun i j => .int (if j > i then j else i)
def cMin2 := c2I fun i j => .int (if j < i then j else i)
theorem cd_max2 {K : PySem.W.Frag} : CallD K (fun xs H Q => ∃ i j, xs = [.int i, .int j] ∧ Q (.int (if j > i then j else i)) H) cMax2 := cd_2I (fv := fun i j => .int (if j > i then j else i)) fun _ _ _ => .int _
theorem cd_min2 {K : PySem.W.Frag} : CallD K (fun xs H Q => ∃ i j, xs = [.int i, .int j] ∧ Q (.int (if j < i then j else i)) H) cMin2 := cd_2I (fv := fun i j => .int (if j < i then j else i)) fun _ _ _ => .int _
def cInt (ds : List D) (S : Sto) (Φ : KD) : Prop := match ds with
  | [.int i] => Φ S (.int i)
  | [.bl k] => Φ S (.int (if k then 1 else 0))
  | _ => False
theorem cd_int {K : PySem.W.Frag} : CallD K (fun xs H Q => (∃ i, xs = [.int i] ∧ Q (.int i) H) ∨ ∃ k, xs = [.bl k] ∧ Q (.int (if k then 1 else 0)) H) cInt := fun w S vs ds Φ Q g r h q => by
  cases ds with
  | nil => exact h.elim
  | cons d t =>
    cases t with
    | cons _ _ => cases d <;> exact h.elim
    | nil =>
      cases r with
      | cons r1 r2 =>
        cases r2
        cases d with
        | int i => exact .inl ⟨i, by rw [rv_int r1], q _ _ w S (Ext.refl w) g (.int _) h⟩
        | bl i => exact .inr ⟨i, by rw [rv_bl r1], q _ _ w S (Ext.refl w) g (.int _) h⟩
        | _ => exact h.elim
/-- list(x): a new list, frozen or a cell -/
def cList (ds : List D) (S : Sto) (Φ : KD) : Prop := match ds with
  | [d] => ∃ xs, asS S d = some xs ∧ Φ S (.lst xs)
  | _ => False
def cListO (ds : List D) (S : Sto) (Φ : KD) : Prop := match ds with
  | [d] => ∃ xs, asS S d = some xs ∧ Φ (S ++ [.lst xs]) (.own S.length)
  | _ => False
theorem cd_list {K : PySem.W.Frag} : CallD K (fun xs H Q => ∃ p ys, xs = [.ref p] ∧ (SqL K H p ys ∨ SqT K H p ys) ∧ ∀ l, H l = none → Q (.ref l) (upd H l (.lst ys))) cList := fun w S vs ds Φ Q g r h q => by
  cases ds with
  | nil => exact h.elim
  | cons d t =>
    cases t with
    | cons _ _ => exact h.elim
    | nil =>
      obtain ⟨xs, e, h⟩ := h
      cases r with
      | cons r1 r2 =>
        cases r2
        obtain ⟨a, ys, rfl, hs, ra⟩ := asS_at g r1 e
        exact ⟨a, ys, rfl, hs, new_lst g q ra h⟩
def cAll (ds : List D) (S : Sto) (Φ : KD) : Prop := match ds with
  | [d] => ∃ bs : List Bool, asQ S d = some (bs.map D.bl) ∧ Φ S (.bl (bs.all id))
  | _ => False
def cSum (ds : List D) (S : Sto) (Φ : KD) : Prop := match ds with
  | [d] => ∃ ns : List Int, asQ S d = some (ns.map D.int) ∧ Φ S (.int ns.sum)
  | _ => False
def cMax (ds : List D) (S : Sto) (Φ : KD) : Prop := match ds with
  | [d] => ∃ ns : List Int, asQ S d = some (ns.map D.int) ∧ 0 < ns.length ∧ ∀ m, m ∈ ns → (∀ y, y ∈ ns → y ≤ m) → Φ S (.int m)
  | _ => False
theorem one_of {K : PySem.W.Frag} {w : Hs} {vs : List V} {d : D} (r : Ra K w vs [d]) : ∃ v, vs = [v] ∧ Rv K w v d := by
  cases r with
  | cons r1 r2 => cases r2; exact ⟨_, rfl, r1⟩
theorem cd_all {K : PySem.W.Frag} : CallD K (rAll K) cAll := fun w S vs ds Φ Q g r h q => by
  cases ds with
  | nil => exact h.elim
  | cons d t =>
    cases t with
    | cons _ _ => exact h.elim
    | nil =>
      obtain ⟨bs, e, h⟩ := h
      obtain ⟨v, rfl, r1⟩ := one_of r
      obtain ⟨a, ys, rfl, hs, ra⟩ := asQ_at g r1 e
      rw [ra_bls ra] at hs
      exact ⟨a, bs, rfl, hs, q _ _ w S (Ext.refl w) g (.bl _) h⟩
theorem cd_sum {K : PySem.W.Frag} : CallD K (rSum K) cSum := fun w S vs ds Φ Q g r h q => by
  cases ds with
  | nil => exact h.elim
  | cons d t =>
    cases t with
    | cons _ _ => exact h.elim
    | nil =>
      obtain ⟨bs, e, h⟩ := h
      obtain ⟨v, rfl, r1⟩ := one_of r
      obtain ⟨a, ys, rfl, hs, ra⟩ := asQ_at g r1 e
      rw [ra_ints ra] at hs
      exact ⟨a, bs, rfl, hs, q _ _ w S (Ext.refl w) g (.int _) h⟩
theorem cd_max {K : PySem.W.Frag} : CallD K (rMax K) cMax := fun w S vs ds Φ Q g r h q => by
  cases ds with
  | nil => exact h.elim
  | cons d t =>
    cases t with
    | cons _ _ => exact h.elim
    | nil =>
      obtain ⟨bs, e, h0, h⟩ := h
      obtain ⟨v, rfl, r1⟩ := one_of r
      obtain ⟨a, ys, rfl, hs, ra⟩ := asQ_at g r1 e
      rw [ra_ints ra] at hs
      exact ⟨a, bs, rfl, hs, h0, fun m h1 h2 => q _ _ w S (Ext.refl w) g (.int _) (h m h1 h2)⟩
def dSetO (o i v : D) (S : Sto) (P : Sto → Prop) : Prop := match o, i with
  | .own h, .int k => ∃ ds j, S[h]? = some (.lst ds) ∧ ixN ds.length k = some j ∧ P (S.set h (.lst (ds.set j v)))
  | _, _ => False
theorem setd_o {K : PySem.W.Frag} : TSetD K rSetL dSetO := fun w S o i v do_ di dv P Q g r1 r2 r3 h q => by
  cases do_ with
  | own hh =>
    cases di with
    | int k =>
      obtain ⟨ds, j, e, hj, hP⟩ := h
      obtain ⟨a, xs, rfl, ha, hH, ra⟩ := own_at g r1 e
      refine ⟨a, xs, k, j, rfl, rv_int r2, hH, by rw [ra.length]; exact hj, ?_⟩
      exact q (w.wr a (.lst (xs.set j v))) _ (Ext.wr _ (List.mem_of_getElem? ha)) (g.wr ha e (ra.set r3 j)) hP
    | _ => exact h.elim
  | _ => cases di <;> exact h.elim
/-- methods of a list in a cell -/
def MtD (K : PySem.W.Frag) (r : V → List V → Hp → VK → Prop) (f : D → List D → Sto → KD → Prop) : Prop :=
  ∀ w S x vs d ds Φ Q, Good K w S → Rv K w x d → Ra K w vs ds → f d ds S Φ → OkD K w Φ Q → r x vs w.H Q
def isLst (S : Sto) (d : D) : Prop := ∃ ds, asL S d = some ds
def dBM (f : D → List D → Sto → KD → Prop) (T : TD) (Tl : TL) : TD := fun Γ S Φ Ψ => T Γ S (fun S1 d => isLst S1 d ∧ Tl Γ S1 (fun S2 ds => f d ds S2 Φ) Ψ) Ψ
def dBM0 (f : D → List D → Sto → KD → Prop) (T : TD) : TD := fun Γ S Φ Ψ => T Γ S (fun S1 d => isLst S1 d ∧ f d [] S1 Φ) Ψ
section
variable {X : Cx} {W : WX} {o e : Expr} {es : List Expr} {apos cpos : Pos} {to : TE} {To : TD} {tl : TA} {Tl : TL}
theorem je_bm {name : Str} {id : String} {r : V → List V → Hp → VK → Prop} {f : D → List D → Sto → KD → Prop} (slot : Slot "list" name id) (hty : typeOf (.builtin id) = pure (.type "method_descriptor")) (hm : MtM X id r) (hd : MtD X.K r f) (ho : JE X W o to To) (ha : JA X W (e :: es) tl Tl)
    (hbase : attributeBase o name X.env (eval o X.env) = eval o X.env := by rfl)
    (hfew : ((backTo cpos (starEach (e :: es) X.env)).all (fun x => !x.1) && (backToKw cpos (keywordEach [] X.env)).all (fun x => x.1.isSome)
      && decide ((e :: es).length + ([] : List Keyword).length + (if ([] : List Keyword).isEmpty then 0 else 1) < 30)) = true := by rfl)
    (hline : (apos.endLine == cpos.line) = true := by rfl) (hs : starEach (e :: es) X.env = (false, eval e X.env) :: starEach es X.env := by rfl) (hplain : (backTo cpos (starEach es X.env)).any (·.1) = false := by rfl) :
    JE X W (.Call (.Attribute o name apos) (e :: es) [] cpos) (tBM X.K "list" r to tl) (dBM f To Tl) := ⟨pe_bm PySem.F.plainAttrs_list slot hty hm ho.pe ha.pa hbase hfew hline hs hplain, fun Γ S Φ Ψ σ w g sl h hx Q q =>
  ho.sem Γ S _ Ψ σ w g sl h hx _ fun v d w1 S1 e1 g1 r1 ⟨⟨xs, hl⟩, h1⟩ => by
    obtain ⟨a, ys, rfl, hH, _⟩ := asL_at g1 r1 hl
    exact ⟨Or.inl ⟨rfl, _, Or.inl (Or.inl hH)⟩, ha.sem Γ S1 _ Ψ σ w1 g1 (sl.ext e1) h1 (hx.ext e1) _ fun vs ds w2 S2 e2 g2 r2 h2 => hd w2 S2 _ vs d ds Φ Q g2 (e2.rp r1) r2 h2 (q.ext (e1.trans e2))⟩⟩
end
def mAppend (d : D) (ds : List D) (S : Sto) (Φ : KD) : Prop := match d, ds with
  | .own h, [y] => ∃ xs, S[h]? = some (.lst xs) ∧ xs.length < sizeLine ∧ Φ (S.set h (.lst (xs ++ [y]))) .non
  | _, _ => False
theorem mtd_append {K : PySem.W.Frag} : MtD K rAppend mAppend := fun w S x vs d ds Φ Q g r1 r2 h q => by
  cases d with
  | own hh =>
    cases ds with
    | nil => exact h.elim
    | cons y t =>
      cases t with
      | cons _ _ => exact h.elim
      | nil =>
        obtain ⟨xs, e, hl, hΦ⟩ := h
        obtain ⟨a, ys, rfl, ha, hH, ra⟩ := own_at g r1 e
        obtain ⟨v, rfl, rv⟩ := one_of r2
        exact ⟨a, ys, v, rfl, rfl, hH, by rw [ra.length]; exact hl, q .non .non (w.wr a (.lst (ys ++ [v]))) _ (Ext.wr _ (List.mem_of_getElem? ha)) (g.wr ha e (ra.append (.cons rv .nil))) .non hΦ⟩
  | _ => exact h.elim
def mExtend (d : D) (ds : List D) (S : Sto) (Φ : KD) : Prop := match d, ds with
  | .own h, [y] => ∃ xs ys, S[h]? = some (.lst xs) ∧ asL S y = some ys ∧ xs.length + ys.length ≤ sizeLine ∧ Φ (S.set h (.lst (xs ++ ys))) .non
  | _, _ => False
theorem mtd_extend {K : PySem.W.Frag} : MtD K rExtend mExtend := fun w S x vs d ds Φ Q g r1 r2 h q => by
  cases d with
  | own hh =>
    cases ds with
    | nil => exact h.elim
    | cons y t =>
      cases t with
      | cons _ _ => exact h.elim
      | nil =>
        obtain ⟨xs, zs, e, e2, hl, hΦ⟩ := h
        obtain ⟨a, ys, rfl, ha, hH, ra⟩ := own_at g r1 e
        obtain ⟨v, rfl, rv⟩ := one_of r2
        obtain ⟨b, us, rfl, hb, rb⟩ := asL_at g rv e2
        exact ⟨a, b, ys, us, rfl, rfl, hH, hb, by rw [ra.length, rb.length]; exact hl, q .non .non (w.wr a (.lst (ys ++ us))) _ (Ext.wr _ (List.mem_of_getElem? ha)) (g.wr ha e (ra.append rb)) .non hΦ⟩
  | _ => exact h.elim
def mReverse (d : D) (ds : List D) (S : Sto) (Φ : KD) : Prop := match d, ds with
  | .own h, [] => ∃ xs, S[h]? = some (.lst xs) ∧ Φ (S.set h (.lst xs.reverse)) .non
  | _, _ => False
def mClear (d : D) (ds : List D) (S : Sto) (Φ : KD) : Prop := match d, ds with
  | .own h, [] => ∃ xs, S[h]? = some (.lst xs) ∧ Φ (S.set h (.lst [])) .non
  | _, _ => False
section
variable {X : Cx} {W : WX} {tg e a b : Expr} {te : TE} {Te : TD} {tl : TA} {Tl : TL} {p pos : Pos}
def iSeq (T : TD) : TId := fun Γ S Φ Ψ => T Γ S (fun S1 d => (∃ ds, asQ S1 d = some ds) ∧ Φ S1 (fun S' => asQ S' d)) Ψ
theorem src_list {K : PySem.W.Frag} {w0 : Hs} {v : V} {d : D} {a : Addr} (r : Rv K w0 v d) (e : v = .ref a) : SrcOk K w0 (Itl K a) (fun S' => asQ S' d) := fun w S ds i e' g h => by
  subst e
  obtain ⟨b, xs, eb, hs, ra⟩ := asQ_at g (e'.rp r) h
  cases eb
  refine ⟨fun d' hd => ?_, fun hl => ⟨xs, hs, by rw [ra.length]; exact hl⟩⟩
  obtain ⟨x, hx, rx⟩ := ra.get hd
  refine ⟨⟨xs, x, hs, hx⟩, fun y H' ⟨e1, hy⟩ => ?_⟩
  have := hy xs hs
  rw [hx] at this
  cases this
  exact ⟨w, Ext.refl w, g, e1.symm, rx⟩
theorem ji_list (h : JE X W e te Te) : JI X W tg e (iList X.K te) (iSeq Te) := ⟨pi_list h.pe, fun Γ S Φ Ψ σ w g sl hT hx Q q =>
  h.sem Γ S _ Ψ σ w g sl hT hx _ fun v d w1 S1 e1 g1 r1 ⟨⟨ds, hd⟩, h1⟩ => by
    obtain ⟨a, xs, rfl, hs, _⟩ := asQ_at g1 r1 hd
    exact ⟨a, rfl, ⟨xs, hs⟩, q _ _ w1 S1 e1 g1 (src_list r1 rfl) h1⟩⟩
def iTupD (T : TD) : TId := fun Γ S Φ Ψ => T Γ S (fun S1 d => ∃ ds, d = .tup ds ∧ Φ S1 (fun _ => some ds)) Ψ
def rngD (lo : Int) (n : Nat) : List D := (List.range n).map fun (i : Nat) => D.int (lo + (i : Int))
theorem rngD_get {lo : Int} {n i : Nat} {d : D} (h : (rngD lo n)[i]? = some d) : i < n ∧ d = .int (lo + (i : Int)) := by
  unfold rngD at h
  rw [List.getElem?_map] at h
  cases q : (List.range n)[i]? with
  | none => rw [q] at h; cases h
  | some j =>
    rw [q] at h
    obtain ⟨h1, h2⟩ := List.getElem?_eq_some_iff.mp q
    rw [List.getElem_range] at h2
    rw [List.length_range] at h1
    subst h2
    cases h
    exact ⟨h1, rfl⟩
theorem rngD_len (lo : Int) (n : Nat) : (rngD lo n).length = n := by
  unfold rngD
  rw [List.length_map, List.length_range]
theorem src_rng {K : PySem.W.Frag} {w0 : Hs} {lo : Int} {n : Nat} : SrcOk K w0 (Itr lo n) (fun _ => some (rngD lo n)) := fun w S ds i e' g h => by
  cases h
  refine ⟨fun d hd => ?_, fun hl => by rw [rngD_len] at hl; exact hl⟩
  obtain ⟨h1, rfl⟩ := rngD_get hd
  exact ⟨h1, fun x H' ⟨e1, e2⟩ => ⟨w, Ext.refl w, g, e1.symm, by rw [e2]; exact .int _⟩⟩
def iRg1 (T : TL) : TId := fun Γ S Φ Ψ => T Γ S (fun S1 ds => ∃ j, ds = [.int j] ∧ -(2 ^ 62) ≤ j ∧ j < 2 ^ 62 ∧ Φ S1 (fun _ => some (rngD 0 j.toNat))) Ψ
def iRg2 (T : TL) : TId := fun Γ S Φ Ψ => T Γ S (fun S1 ds => ∃ i j, ds = [.int i, .int j] ∧ (-(2 ^ 62) ≤ i ∧ i < 2 ^ 62 ∧ -(2 ^ 62) ≤ j ∧ j < 2 ^ 62) ∧ Φ S1 (fun _ => some (rngD i (j - i).toNat))) Ψ
theorem ji_range1 (hg : Gl X "range") (hm : X.mg "range" = none) (ha : JA X W [a] tl Tl) (hs : starEach [a] X.env = [(false, eval a X.env)] := by rfl) : JI X W tg (.Call (.Name "range" p) [a] [] pos) (iRng1 tl) (iRg1 Tl) := ⟨pi_range1 hg hm ha.pa hs, fun Γ S Φ Ψ σ w g sl hT hx Q q =>
  ha.sem Γ S _ Ψ σ w g sl hT hx _ fun vs ds w1 S1 e1 g1 r1 ⟨j, ed, h1, h2, h3⟩ => by
    subst ed
    obtain ⟨v, rfl, rv⟩ := one_of r1
    exact ⟨j, by rw [rv_int rv], h1, h2, q _ _ w1 S1 e1 g1 src_rng h3⟩⟩
theorem ji_range2 (hg : Gl X "range") (hm : X.mg "range" = none) (ha : JA X W [a, b] tl Tl) (hs : starEach [a, b] X.env = [(false, eval a X.env), (false, eval b X.env)] := by rfl) (hs2 : starEach [b] X.env = [(false, eval b X.env)] := by rfl) : JI X W tg (.Call (.Name "range" p) [a, b] [] pos) (iRng2 tl) (iRg2 Tl) := ⟨pi_range2 hg hm ha.pa hs hs2, fun Γ S Φ Ψ σ w g sl hT hx Q q =>
  ha.sem Γ S _ Ψ σ w g sl hT hx _ fun vs ds w1 S1 e1 g1 r1 ⟨i, j, ed, h1, h3⟩ => by
    subst ed
    cases r1 with
    | cons ra rb =>
      obtain ⟨v, rfl, rv⟩ := one_of rb
      exact ⟨i, j, by rw [rv_int ra, rv_int rv], h1, q _ _ w1 S1 e1 g1 src_rng h3⟩⟩
/-- zip of two lists, enumerate of a list: a new tuple each -/
def zipD (xs ys : List D) : List D := (xs.zip ys).map fun p => D.tup [p.1, p.2]
def enumD (xs : List D) : List D := (List.range xs.length).map fun (i : Nat) => D.tup [.int (i : Int), xs.getD i .non]
theorem enumD_get {xs : List D} {i : Nat} {d : D} (h : (enumD xs)[i]? = some d) : ∃ x, xs[i]? = some x ∧ d = .tup [.int (i : Int), x] := by
  unfold enumD at h
  rw [List.getElem?_map] at h
  cases q : (List.range xs.length)[i]? with
  | none => rw [q] at h; cases h
  | some j =>
    rw [q] at h
    obtain ⟨h1, h2⟩ := List.getElem?_eq_some_iff.mp q
    rw [List.getElem_range] at h2
    rw [List.length_range] at h1
    subst h2
    cases h
    refine ⟨xs[i], List.getElem?_eq_getElem h1, ?_⟩
    show D.tup [D.int (i : Int), xs.getD i D.non] = D.tup [D.int (i : Int), xs[i]]
    rw [List.getD_eq_getElem?_getD, List.getElem?_eq_getElem h1] <;> rfl
theorem enumD_len (xs : List D) : (enumD xs).length = xs.length := by
  unfold enumD
  rw [List.length_map, List.length_range]
def iZipD (T : TL) : TId := fun Γ S Φ Ψ => T Γ S (fun S1 ds => ∃ d e, ds = [d, e] ∧ (∃ xs, asQ S1 d = some xs) ∧ (∃ ys, asQ S1 e = some ys) ∧ Φ S1 (fun S' => (asQ S' d).bind fun xs => (asQ S' e).map fun ys => zipD xs ys)) Ψ
def iEnumD (T : TL) : TId := fun Γ S Φ Ψ => T Γ S (fun S1 ds => ∃ d, ds = [d] ∧ (∃ xs, asQ S1 d = some xs) ∧ Φ S1 (fun S' => (asQ S' d).map enumD)) Ψ
theorem tup_new {K : PySem.W.Frag} {w : Hs} {S : Sto} (g : Good K w S) {T : Addr} {vs : List V} {ds : List D} (hT : w.H T = none) (r : Ra K w vs ds) : ∃ w', Ext w w' ∧ Good K w' S ∧ w'.H = upd w.H T (.tup vs) ∧ Rv K w' (.ref T) (.tup ds) :=
  ⟨w.frz T (.tup vs), Ext.frz g _ hT, g.frz _ hT, rfl, .tup (.inl (.inl upd_same)) ((Ext.frz g _ hT).ra r)⟩
theorem ji_enum {elts : List Expr} {kk : Nat} {tpos : Pos} (hg : Gl X "enumerate") (hm : X.mg "enumerate" = none) (ha : JA X W [e] tl Tl) (hs : starEach [e] X.env = [(false, eval e X.env)] := by rfl) :
    JI X W (.Tuple elts kk tpos) (.Call (.Name "enumerate" p) [e] [] pos) (iEnum X.K tl) (iEnumD Tl) := ⟨pi_enum hg hm ha.pa hs, fun Γ S Φ Ψ σ w g sl hT hx Q q =>
  ha.sem Γ S _ Ψ σ w g sl hT hx _ fun vs ds w1 S1 e1 g1 r1 ⟨d, ed, ⟨xs, hxs⟩, h3⟩ => by
    subst ed
    obtain ⟨v, rfl, rv⟩ := one_of r1
    obtain ⟨a1, us, rfl, hs1, _⟩ := asQ_at g1 rv hxs
    refine ⟨a1, us, rfl, hs1, q _ _ w1 S1 e1 g1 (fun w S ds i e' g hh => ?_) h3⟩
    cases q1 : asQ S d with
    | none => rw [q1] at hh; cases hh
    | some xs' =>
      rw [q1] at hh
      cases hh
      obtain ⟨b1, vs1, eb1, hsa, ra1⟩ := asQ_at g (e'.rp rv) q1
      cases eb1
      refine ⟨fun dd hd => ?_, fun hl => ⟨vs1, hsa, ?_⟩⟩
      · obtain ⟨x, hx1, rfl⟩ := enumD_get hd
        obtain ⟨vx, hvx, rvx⟩ := ra1.get hx1
        refine ⟨⟨vs1, vx, hsa, hvx⟩, fun z H' ⟨T, x', ez, hn, eH, fx⟩ => ?_⟩
        have f1 := fx vs1 hsa
        rw [hvx] at f1
        cases f1
        subst ez
        obtain ⟨w', ee, gg, eh, rr⟩ := tup_new g hn (.cons (.int (i : Int)) (.cons rvx .nil))
        exact ⟨w', ee, gg, by rw [eh, eH], rr⟩
      · rw [enumD_len] at hl
        rw [ra1.length]
        exact hl⟩
end
end DL
namespace DL
open PySem PySem.Spec PyProof.Rows L2
def sRaise (C : Addr) : TSd := fun D _ S => D.er S ⟨C, []⟩
theorem js_raise {X : Cx} {W : WX} {x m : Str} {C : Addr} {j : Nat} {p p2 pos pos' : Pos} (hc : X.calm = true) (tk : Takes X W) (q : PySem.W.excIn X.K C He.veBase "ValueError.__new__" = true) (gC : X.mg x = some (.ref C)) (kC : PySem.W.keepIn X.K (.ref C) = true)
    (b : PySem.W.subIn X.K (.ref C) (.type "BaseException") = some true) (t : PySem.W.typeIn X.K (.ref C) = some (.type "type")) (hg : Gl X x) (hdb : (x == ("__debug__" : Str)) = false := by decide) :
    JS X W (.Raise (some (.Call (.Name x p) [.Constant (.str m) j p2] [] pos')) none pos) (fun _ σ H => (fun (_ : L2.St) (H : Hp) (Q : XK) => Q (.ref C) none H) σ H fun cls d H' => W cls d σ H') (sRaise C) :=
  ⟨ps_raise hc tk (pmk_own PySem.F.excBase_ValueError q gC kC (raises_own b t) hg hdb), fun D' Γ S σ w D g sl h r => r.er σ (.ref C) none ⟨C, []⟩ w S (Ext.refl w) g ⟨rfl, rfl⟩ h⟩
def tyOf (S : Sto) : D → Option String
  | .non => some "NoneType"
  | .bl _ => some "bool"
  | .int _ => some "int"
  | .str _ => some "str"
  | .lst _ => some "list"
  | .sq _ => some "list"
  | .tup _ => some "tuple"
  | .dic _ => some "dict"
  | .own h => match S[h]? with
    | some (.lst _) => some "list"
    | _ => none
  | _ => none
def isTyB (a n : String) : Bool := a == n || (a == "bool" && n == "int")
def tys : List String := ["NoneType", "bool", "int", "str", "list", "tuple", "dict"]
def tyN : List String := ["int", "bool", "str", "list", "tuple", "dict"]
theorem kit_all : (tys.all fun a => tyN.all fun n => decide (kitB a n = some (isTyB a n))) = true := by decide +kernel
theorem kit_at {K : PySem.W.Frag} {a n : String} (ha : a ∈ tys) (hn : n ∈ tyN) : PySem.W.kitOne K (.type a) (.type n) = some (isTyB a n) := by
  have h := List.all_eq_true.mp kit_all a ha
  have h2 := List.all_eq_true.mp h n hn
  exact kit_ty (of_decide_eq_true h2)
theorem tyx_of {K : PySem.W.Frag} {w : Hs} {S : Sto} (g : Good K w S) {v : V} {d : D} {n : String} (r : Rv K w v d) (h : tyOf S d = some n) : TyX K w.H v (.type n) ∧ n ∈ tys := by
  cases d with
  | non => cases r; cases h; exact ⟨.base .non, by decide⟩
  | bl b => cases r; cases h; exact ⟨.base (.bl b), by decide⟩
  | int b => cases r; cases h; exact ⟨.base (.int b), by decide⟩
  | str b => cases r; cases h; exact ⟨.base (.str b), by decide⟩
  | lst ds =>
    cases h
    cases r with
    | lst h1 h2 => exact ⟨.base (.lst (g.sub _ _ h1)), by decide⟩
  | sq ds =>
    cases h
    cases r with
    | sq h1 h2 =>
      refine ⟨?_, by decide⟩
      rcases h1 with (h1 | ⟨o, h1⟩) | ⟨o, its, m, h1, hc, _⟩
      · exact .base (.lst (g.sub _ _ h1))
      · exact .base (.frz (g.sub _ _ h1))
      · exact .kList h1 hc
  | tup ds =>
    cases h
    cases r with
    | tup h1 h2 =>
      refine ⟨?_, by decide⟩
      rcases h1 with (h1 | ⟨o, h1⟩) | ⟨o, its, m, h1, hc, _⟩
      · exact .base (.tup (g.sub _ _ h1))
      · exact .fTuple (g.sub _ _ h1)
      · exact .kTuple h1 hc
  | dic ds =>
    cases h
    cases r with
    | dic h1 h2 => exact ⟨.base (.dK (g.sub _ _ h1)), by decide⟩
  | own hh =>
    have e2 : (match S[hh]? with
      | some (.lst _) => some "list"
      | _ => none) = some n := h
    cases q : S[hh]? with
    | none => rw [q] at e2; cases e2
    | some c =>
      rw [q] at e2
      cases c with
      | gone => cases e2
      | ins _ _ => cases e2
      | dct _ => cases e2
      | dck _ => cases e2
      | lck _ _ _ => cases e2
      | lst es =>
        cases e2
        obtain ⟨a, xs, rfl, _, h2, _⟩ := own_at g r q
        exact ⟨.base (.lst h2), by decide⟩
  | _ => cases h
def cIsi (ds : List D) (S : Sto) (Φ : KD) : Prop := match ds with
  | [d, .ty n] => ∃ a, tyOf S d = some a ∧ n ∈ tyN ∧ Φ S (.bl (isTyB a n))
  | _ => False
theorem two_of {K : PySem.W.Frag} {w : Hs} {vs : List V} {d e : D} (r : Ra K w vs [d, e]) : ∃ v u, vs = [v, u] ∧ Rv K w v d ∧ Rv K w u e := by
  cases r with
  | cons r1 r2 =>
    obtain ⟨u, rfl, ru⟩ := one_of r2
    exact ⟨_, _, rfl, r1, ru⟩
theorem rv_ty {K : PySem.W.Frag} {w : Hs} {v : V} {n : String} (r : Rv K w v (.ty n)) : v = .ty n := by cases r; rfl
theorem cd_isi {K : PySem.W.Frag} : CallD K (rIsi K) cIsi := fun w S vs ds Φ Q g r h q => by
  cases ds with
  | nil => exact h.elim
  | cons d t =>
    cases t with
    | nil => exact h.elim
    | cons e t2 =>
      cases t2 with
      | cons _ _ => cases e <;> exact h.elim
      | nil =>
        cases e with
        | ty n =>
          obtain ⟨a, h1, h2, h3⟩ := h
          obtain ⟨v, u, rfl, rv, ru⟩ := two_of r
          rw [rv_ty ru]
          obtain ⟨h4, h5⟩ := tyx_of g rv h1
          exact ⟨v, .ty n, .type a, .type n, isTyB a n, rfl, .ty n, h4, kit_at h5 h2, q _ _ w S (Ext.refl w) g (.bl _) h3⟩
        | _ => exact h.elim
/-- a list or tuple that == and repr take -/
structure Shw (p : PyData) : Prop where
  s : p.showable = true
  d : p.hasDict = false
  dp : p.depth ≤ 60
  l : p.shown.length ≤ sizeLine
/-- as FnOk, where the guards around are known to be none -/
structure FnOkG (P : Program) (wd : World) (K : PySem.W.Frag) (mg : Str → Option Value) (B : Heap) (cx : CXT) (k : Nat) (f : Addr) (fd : FuncData) (ps : List Str) (sp : Sp) : Prop where
  many : ∀ as H Q E, sp as H Q E → as.length = ps.length
  go : ∀ (Ar : Around) (out : List Env) (s0 : Shared) (H : Hp) (ar : Args) (us : List Value) (as : List V) (Q : VK) (E : XK),
    Ar.guards = some [] → Room k Ar → Env0 P wd K mg B Ar out s0 H → BindsTo s0 fd ar (ps.zip us) → Vals as us → sp as H Q E →
      codeAny (model P wd) Ar (.call (.ref f) ar) (CR cx out P wd H s0 Q E) s0
section
variable {P : Program} {wd : World} {K : PySem.W.Frag} {mg : Str → Option Value} {B : Heap} {cx : CXT} {k : Nat} {f : Addr} {fd : FuncData} {ps N : List Str} {sp : Sp}
theorem FnOkG.of (F : FnOk P wd K mg B cx k f fd ps sp) : FnOkG P wd K mg B cx k f fd ps sp where
  many := F.len
  go := fun Ar out s0 H ar us as Q E _ room en bi vs h => F.run Ar out s0 H ar us as Q E room en bi vs h
/-- how a body's end is a call's end -/
theorem end_of {qual : Str} {scope : Scope} {cdv : Value} {Ar : Around} {out : List Env} {s0 s1 : Shared} {H : Hp} {Q : VK} {E : XK} {fl : Flow}
    (h : SP (cxOf cx P wd K mg B N qual scope f cdv Ar out s0 H E) [] { nx := fun _ H1 => Q .non H1, rt := Q } fl s1) :
    match fl with
    | .ret u => CE out P wd H s0 Q u s1
    | .next => CE out P wd H s0 Q .none s1
    | _ => False := by
  cases fl with
  | ret u => exact let ⟨v, _, H1, J, r, q⟩ := h; ⟨v, H1, J.os, J.bare, J.base, J.hok, r, q⟩
  | next => exact let ⟨_, H1, J, q⟩ := h; ⟨.non, H1, J.os, J.bare, J.base, J.hok, rfl, q⟩
  | brk => exact let ⟨_, _, _, q⟩ := h; q.elim
  | cont => exact let ⟨_, _, _, q⟩ := h; q.elim
theorem fn_ofG {nm qual : Str} {pr : Arguments} {bd : List Stmt} {scope : Scope} {dV kV doc pm cdv ct oc : Value} {an od : Option Addr} {osl : Array (Option Value)}
    (there : K.lookup f = some ⟨oc, od, .func (PySem.W.fnOf nm qual pr bd scope dV kV doc pm an cdv ct), osl⟩) (code : PySem.W.codeIn K cdv qual = true) (Sc : FnScope N ps scope) (many : ∀ as H Q E, sp as H Q E → as.length = ps.length)
    (body : ∀ (Ar : Around) (out : List Env) (s0 : Shared) (H : Hp) (as : List V) (Q : VK) (E : XK), Ar.guards = some [] → Room k (Ar.deeper (envOfC qual scope s0.heap.objs.size f cdv)) → sp as H Q E →
      ∃ t, PSs (cxOf cx P wd K mg B N qual scope f cdv Ar out s0 H E) bd t ∧ t { nx := fun _ H1 => Q .non H1, rt := Q } (L2.start N as) H) :
    FnOkG P wd K mg B cx (k + 1) f (PySem.W.fnOf nm qual pr bd scope dV kV doc pm an cdv ct) ps sp where
  many := many
  go := by
    intro Ar out s0 H ar us as Q E gd room en bi vs hs
    obtain ⟨t, run, ask⟩ := body Ar out s0 H as Q E gd (room.deeper _) hs
    have up : ∀ c o, B.get? c = some o → s0.heap.get? c = some o := fun c o e => (en.bs c o e).1
    have kin : K.In s0.heap := en.mod.kin.keeps up
    have noLim := en.mod.nolimit.keeps up
    refine codeAny_call_function room.depth (kin _ _ there) rfl Sc.co Sc.gen rfl (PySem.W.codeRec_of kin code)
      (bi _ _ _ _ (wpAny_newFunctionEnv_cells Sc.kind (fun y hy => (Sc.par y.1 (List.of_mem_zip hy).1).elim .inl fun c => .inr ⟨c, PySem.W.cellsFrom_some _ _ _ (.inl c)⟩) ?_))
    intro env ee s1 inc
    subst ee
    refine ⟨noLim.keeps inc.toInCall.keep, codeAny_func ?_⟩
    refine wpAny_mono (run.run [] s1 (L2.start N as) H _ (inv_start Sc room.hd en (many _ _ _ _ hs) vs inc) ask) (fun fl s2 h => ?_) (fun _ _ h => h)
    have z := end_of (fl := fl) h
    cases fl <;> first | exact z | exact z.elim
end
section
variable {X : Cx} {W : WX} {e : Expr} {es : List Expr} {pos p : Pos} {tl : TA} {Tl : TL} {k : Nat} {f : Addr} {fd : FuncData} {ps : List Str} {sp : DSpec} {x : Str}
/-- the callee's run, its guards known -/
theorem goG {s0 : Sp} {pins : List (Addr × Obj)} {σ : L2.St} {H : Hp} {s : Shared} {Q : VK} {us : List Value} {vs : List V} (F : FnOkG X.prog X.w X.K X.mg X.base (L2.CX X.prog X.w) k f fd ps s0) (gd : X.A.guards = some []) (room : Room k X.A) (hb : Binds X.K fd ps []) (tk : Takes X W)
    (I : Inv X pins σ H s) (r : Vals vs us) (h : s0 vs H Q (WE W σ)) : wpAny (model X.prog X.w) X.A (call (.ref f) us) (EP X pins σ Q) X.xe s := by
  have many : (us ++ []).length = ps.length := by rw [List.append_nil, ← r.length, F.many _ _ _ _ h]
  have bi : BindsTo s fd ⟨us, []⟩ (ps.zip us) := by
    have z := hb s us I.kIn many
    rwa [List.append_nil] at z
  refine wpAny_call (codeAny_mono (F.go _ _ s H _ us vs Q _ gd room I.env0 bi r h) fun rr s2 hq => ?_)
  match rr, hq with
  | .error u, hq => exact passAt tk σ pins H s u s2 I hq
  | .ok (.ret u), hq => exact I.after hq
  | .ok .next, hq => exact False.elim hq
  | .ok .brk, hq => exact False.elim hq
  | .ok .cont, hq => exact False.elim hq
theorem je_callG (F : FnOkG X.prog X.w X.K X.mg X.base (L2.CX X.prog X.w) k f fd ps (spOf X.K sp)) (gd : X.A.guards = some []) (room : Room k X.A) (hg : Gl X x) (hm : X.mg x = some (.ref f)) (hk : PySem.W.keepIn X.K (.ref f) = true) (hb : Binds X.K fd ps [])
    (tk : Takes X W) (ha : JA X W (e :: es) tl Tl) (hdb : (x == ("__debug__" : Str)) = false := by decide) (he : starEach (e :: es) X.env = (false, eval e X.env) :: starEach es X.env := by rfl) (hpl : (backTo pos (starEach es X.env)).any (·.1) = false := by rfl) :
    JE X W (.Call (.Name x p) (e :: es) [] pos) (tCallS (spOf X.K sp) (WE W) tl) (dCall sp Tl) where
  sem := sem_call ha.sem
  pe := ⟨fun pins s σ H Q I h => wpAny_Call_Name_kw (ld_glob I hg hm (PySem.W.callWith_K (h₀ := X.base) I.ok.mod.kin hk
    (thn (ha.pa.run pos pins s σ H _ I h) fun us s1 ⟨vs, H1, I1, r, q⟩ => ⟨I1.kIn, goG F gd room hb tk I1 r q⟩) he hpl) hdb)⟩
end
end DL
namespace DL
open PySem PySem.Spec PyProof.Rows L2
section
variable {P : Program} {wd : World} {K : PySem.W.Frag} {mg mb : Str → Option Value} {k : Nat} {fa a : Addr} {fd : FuncData} {x : Str} {sp : DSpec} {s1 : Shared} {vs : List Value} {ns : List Int}
abbrev scrO (vs : List Value) : Obj := { cls := .type "list", data := .seq vs.toArray }
/-- the row's call, from what is tracked: nothing, or the script -/
theorem law_from {H : Hp} (hH : ∀ b u, H b = some u → b = a ∧ u = .frz (scrO vs) (.lst (ns.map V.int))) (hK : H a ≠ none → K.lookup a = none) (hS : SqL K H a (ns.map V.int))
    (kin : K.In s1.heap) (hns : s1.heap.Ns mainGlobals mg) (hb : s1.heap.Ns builtinsNs mb) (hbb : ∀ y : Str, y ≠ "__name__" → mb y = bootBuiltins y) (lim : s1.heap.NoLimit) (hg : s1.gens = #[]) (ha : s1.heap.get? a = some (scrO vs)) (hi : IntsAre vs ns) (hl : ns.length ≤ sizeLine)
    (room : Room k callerA) (F : ∀ base : Heap, K.In base → base.Ns mainGlobals mg → FnOkG P wd K mg base (L2.CX P wd) k fa fd [x] (spOf K sp)) (bind : ∀ (s : Shared) (u : Value), BindsTo s fd ⟨[u], []⟩ [(x, u)])
    (holds : sp [.sq (ns.map D.int)] [] (fun _ d => d = .bl true) fun _ _ => False) :
    codeAny (model P wd) callerA (.call (.ref fa) ⟨[.ref a], []⟩) (fun r s' => r = .ok (.ret (.bool true)) ∧ OldK s1.heap s'.heap ∧ s'.os = s1.os ∧ AllBare s'.gens) s1 := by
  have rv : Vals (ns.map V.int) vs := vals_ints hi
  have hok : HOk P wd H s1.heap := fun b u e => by
    obtain ⟨rfl, rfl⟩ := hH b u e
    exact ⟨ha, by rw [List.length_map]; exact hl, vs, _, rv, ha⟩
  have noD : ∀ {b : Addr} {o : Obj} {es : Array DictEntry} {n : Nat}, s1.heap.get? b = some o → o.data = .dict es n → H b = none := fun {b o es n} e d => by
    cases q : H b with
    | none => rfl
    | some u =>
      have z := (hH b u q).1
      rw [z, ha] at e
      rw [← Option.some.inj e] at d
      exact nomatch d
  have ns_ : ∀ {b : Addr} {m : Str → Option Value}, s1.heap.Ns b m → (hidT s1.heap H).Ns b m := fun {b m} n => by
    obtain ⟨o, es, ep, e, d, r⟩ := n
    exact ⟨o, es, ep, hidT_get e (noD e d), d, r⟩
  have kinB : K.In (hidT s1.heap H) := fun b o e => hidT_get (kin b o e) (by
    cases q : H b with
    | none => rfl
    | some u =>
      have z := (hH b u q).1
      have y := hK (by rw [← z, q]; exact fun t => nomatch t)
      rw [← z, e] at y
      exact nomatch y)
  have md : Mod K mg (hidT s1.heap H) := by
    obtain ⟨mc, l1, l2⟩ := lim
    exact ⟨kinB, ns_ hns, ⟨mb, ns_ hb, hbb⟩, ⟨mc, ns_ l1, l2⟩⟩
  have en : Env0 P wd K mg (hidT s1.heap H) callerA [] s1 H :=
    ⟨rfl, md, fun _ _ e => of_hidT e, Nat.le_of_eq (hidT_size _ _), trivial, (fun _ h => nomatch h), hok, .of_eq hg⟩
  have sps : spOf K sp [.ref a] H (fun v _ => v = .bl true) fun _ _ _ => False := by
    refine ⟨⟨H, [], H⟩, [], [.sq (ns.map D.int)], (fun _ d => d = .bl true), (fun _ _ => False), rfl, ⟨fun _ _ e => e, List.nodup_nil, rfl, fun h b c e => by simp at e, fun b h => nomatch h⟩, .cons (.sq hS ?_) .nil, holds, fun v d w' S' _ _ r q => ?_, fun _ _ _ _ _ _ _ _ z => z⟩
    · have e : ∀ l : List Int, RpA K H [] (l.map V.int) (l.map D.int) := fun l => by
        induction l with
        | nil => exact .nil
        | cons i l ih => exact .cons (.int i) ih
      exact e ns
    · have q : d = .bl true := q
      subst q
      exact rv_bl r
  refine codeAny_mono ((F _ kinB (ns_ hns)).go callerA [] s1 H ⟨[.ref a], []⟩ [.ref a] [.ref a] _ _ rfl room en (bind s1 _) (.cons rfl .nil) sps) fun r s2 h => ?_
  match r, h with
  | .ok (.ret u), h =>
    obtain ⟨v, H2, os, bare, un, hok2, r2, q⟩ := h
    have q : v = .bl true := q
    subst q
    have eu : u = Value.bool true := r2
    refine ⟨by rw [eu], OldK.of_keep fun b o e => ?_, os, bare⟩
    cases z : H b with
    | none => exact un.keep b o e z (fun t => nomatch t) (fun t => nomatch t)
    | some y =>
      obtain ⟨rfl, rfl⟩ := hH b y z
      have t1 := (hok2 b _ (un.frzs b _ _ z)).1
      rw [ha] at e
      rw [← Option.some.inj e]
      exact t1
  | .ok .next, h => exact False.elim h
  | .ok .brk, h => exact False.elim h
  | .ok .cont, h => exact False.elim h
  | .error e, h =>
    have h : L2.CX P wd [] H s1 (fun _ _ _ => False) e s2 := h
    obtain ⟨_, _, _, _, _, _, _, _, _, _, _, _, z⟩ := h
    exact z.elim
theorem law_end (kin : K.In s1.heap) (hns : s1.heap.Ns mainGlobals mg) (hb : s1.heap.Ns builtinsNs mb) (hbb : ∀ y : Str, y ≠ "__name__" → mb y = bootBuiltins y) (lim : s1.heap.NoLimit) (hg : s1.gens = #[]) (ha : s1.heap.get? a = some (scrO vs)) (hi : IntsAre vs ns) (hl : ns.length ≤ sizeLine)
    (room : Room k callerA) (F : ∀ base : Heap, K.In base → base.Ns mainGlobals mg → FnOkG P wd K mg base (L2.CX P wd) k fa fd [x] (spOf K sp)) (bind : ∀ (s : Shared) (u : Value), BindsTo s fd ⟨[u], []⟩ [(x, u)])
    (holds : sp [.sq (ns.map D.int)] [] (fun _ d => d = .bl true) fun _ _ => False) :
    codeAny (model P wd) callerA (.call (.ref fa) ⟨[.ref a], []⟩) (fun r s' => r = .ok (.ret (.bool true)) ∧ OldK s1.heap s'.heap ∧ s'.os = s1.os ∧ AllBare s'.gens) s1 := by
  cases q : K.lookup a with
  | some o =>
    have e := kin a o q
    rw [ha] at e
    have e2 := Option.some.inj e
    refine law_from (H := fun _ => none) (fun b u z => nomatch z) (fun z => absurd rfl z) (.inr ⟨o, vs.toArray, 0, q, ?_, ?_, ?_, ?_, ?_⟩) kin hns hb hbb lim hg ha hi hl room F bind holds
    · rw [← e2]
    · rw [← e2]
    · rw [← e2]
    · rw [List.size_toArray, hi.length]; exact hl
    · exact vals_ints hi
  | none =>
    refine law_from (H := fun b => if b = a then some (.frz (scrO vs) (.lst (ns.map V.int))) else none) (fun b u z => ?_) (fun _ => q) (.inl (.inr ⟨scrO vs, if_pos rfl⟩)) kin hns hb hbb lim hg ha hi hl room F bind holds
    by_cases e : b = a
    · exact ⟨e, (Option.some.inj ((if_pos e).symm.trans z)).symm⟩
    · exact nomatch (if_neg e).symm.trans z
end
/-- what the row's head leaves, from the law's promise by data -/
theorem walk_end {l : PySem.W.OpenLaw} {n k : Nat} {q : Program} {loose : List Str} {XP : (Str → Option Value) → Heap → Prop} {YP : World → Heap → Prop} {d : DefRec} {x : Str} (hn : l.most = some n) (hn2 : n ≤ sizeLine) (hdf : d.params.defaults = []) (room : Room k callerA)
    (F : ∀ (w : World) (mg : Str → Option Value) (fa : Addr) (h : Heap), YP w h → h.Ns mainGlobals mg → mg d.name = some (.ref fa) →
      ∃ (K : PySem.W.Frag) (fd : FuncData) (sp : DSpec), K.In h ∧ (∀ (s : Shared) (u : Value), BindsTo s fd ⟨[u], []⟩ [(x, u)]) ∧ (∀ ns : List Int, ns.length ≤ n → (∀ z ∈ ns, Builtin.Int.intBits z ≤ 1048576) → sp [.sq (ns.map D.int)] [] (fun _ d => d = .bl true) fun _ _ => False) ∧
        ∀ base : Heap, K.In base → base.Ns mainGlobals mg → FnOkG l.prog w K mg base (L2.CX l.prog w) k fa fd [x] (spOf K sp)) :
    PySem.W.WalkO q loose XP YP l.row.toRowW d [] (fun f vs => PySem.call f vs) := by
  refine Att.attach_callB hn hdf fun w s0 s1 mg mb fa o pm cd doc a vs ns G Y ho hd hcd hmg hobj hints hlen hbits hg => ?_
  obtain ⟨K, fd, sp, kin, hb, hs, hF⟩ := F w mg fa _ Y G.T.g hmg
  exact law_end kin G.T.g G.T.b G.T.builtins G.T.nolimit hg hobj hints (Nat.le_trans hlen hn2) room hF hb (hs ns hlen hbits)
end DL
namespace DL
open PySem PySem.Spec PyProof.Rows L2
def fzD (d : D) (S : Sto) (Φ : KD) : Prop := match d with
  | .own h => ∃ ds, S[h]? = some (.lst ds) ∧ Φ (S.set h .gone) (.lst ds)
  | d => Φ S d
def dFz (T : TD) : TD := fun Γ S Φ Ψ => T Γ S (fun S1 d => fzD d S1 Φ) Ψ
theorem fz_ok {K : PySem.W.Frag} {w : Hs} {S : Sto} (g : Good K w S) {Φ : KD} {Q : VK} {v : V} {d : D} (r : Rv K w v d) (h : fzD d S Φ) (q : OkD K w Φ Q) : Q v w.H := by
  have other : Φ S d → Q v w.H := fun z => q v d w S (Ext.refl w) g r z
  cases d with
  | own hh =>
    obtain ⟨ds, e, hΦ⟩ := h
    obtain ⟨a, xs, rfl, ha, hH, ra⟩ := own_at g r e
    have hm : a ∈ w.al := List.mem_of_getElem? ha
    have hF : w.F a = none := (g.cell hh a _ ha e).1
    have ee : Ext w (w.fz a (.lst xs)) := Ext.fz hm hF
    exact q (.ref a) (.lst ds) (w.fz a (.lst xs)) _ ee (g.fz ha e hH) (.lst upd_same (ee.ra ra)) hΦ
  | _ => exact other h
theorem je_fz {X : Cx} {W : WX} {e : Expr} {t : TE} {T : TD} (h : JE X W e t T) : JE X W e t (dFz T) := ⟨h.pe, fun Γ S Φ Ψ σ w g sl hT hx Q q =>
  h.sem Γ S _ Ψ σ w g sl hT hx Q fun v d w1 S1 e1 g1 r1 h1 => fz_ok g1 r1 h1 (q.ext e1)⟩
mutual
def D.low (n : Nat) : D → Bool
  | .own h => decide (h < n)
  | .lst ds => lowA n ds
  | .sq ds => lowA n ds
  | .tup ds => lowA n ds
  | .ins _ fs => lowF n fs
  | .dic kvs => lowK n kvs
  | .non => true
  | .bl _ => true
  | .int _ => true
  | .str _ => true
  | .obj _ => true
  | .ty _ => true
  | .exc _ fs => lowF n fs
def lowA (n : Nat) : List D → Bool
  | [] => true
  | d :: ds => D.low n d && lowA n ds
def lowF (n : Nat) : List (Str × D) → Bool
  | [] => true
  | (_, d) :: ds => D.low n d && lowF n ds
def lowK (n : Nat) : List (Key × D) → Bool
  | [] => true
  | (_, d) :: ds => D.low n d && lowK n ds
end
section
variable {K : PySem.W.Frag} {F : Hp} {al : List Addr}
mutual
theorem rp_low (n : Nat) : ∀ (d : D) (v : V), Rp K F al v d → d.low n = true → Rp K F (al.take n) v d
  | .non, _, h, _ => by cases h; exact .non
  | .bl _, _, h, _ => by cases h; exact .bl _
  | .int _, _, h, _ => by cases h; exact .int _
  | .str _, _, h, _ => by cases h; exact .str _
  | .lst ds, _, h, l => by
    cases h with
    | lst h1 h2 => exact .lst h1 (ra_low n ds _ h2 (by simpa [D.low] using l))
  | .sq ds, _, h, l => by
    cases h with
    | sq h1 h2 => exact .sq h1 (ra_low n ds _ h2 (by simpa [D.low] using l))
  | .tup ds, _, h, l => by
    cases h with
    | tup h1 h2 => exact .tup h1 (ra_low n ds _ h2 (by simpa [D.low] using l))
  | .ins C fs, _, h, l => by
    cases h with
    | ins h1 h2 => exact .ins h1 (rf_low n fs _ h2 (by simpa [D.low] using l))
  | .dic fs, _, h, l => by
    cases h with
    | dic h1 h2 => exact .dic h1 (rk_low n fs _ h2 (by simpa [D.low] using l))
  | .obj _, _, h, _ => by cases h; exact .obj _
  | .own m, _, h, l => by
    cases h with
    | own h1 =>
      have hm : m < n := by simpa [D.low] using l
      exact .own (by rw [List.getElem?_take_of_lt hm]; exact h1)
  | .ty _, _, h, _ => by cases h; exact .ty _
  | .exc C fs, _, h, l => by
    cases h with
    | exc0 h1 h2 h0 h3 => exact .exc0 h1 h2 h0 h3
    | excD h1 h2 h0 h3 h4 h5 => exact .excD h1 h2 h0 h3 h4 (rf_low n fs _ h5 (by simpa [D.low] using l))
theorem ra_low (n : Nat) : ∀ (ds : List D) (vs : List V), RpA K F al vs ds → lowA n ds = true → RpA K F (al.take n) vs ds
  | [], _, h, _ => by cases h; exact .nil
  | d :: ds, _, h, l => by
    rw [lowA, Bool.and_eq_true] at l
    cases h with
    | cons h1 h2 => exact .cons (rp_low n d _ h1 l.1) (ra_low n ds _ h2 l.2)
theorem rf_low (n : Nat) : ∀ (ds : List (Str × D)) (vs : List (Str × V)), RpF K F al vs ds → lowF n ds = true → RpF K F (al.take n) vs ds
  | [], _, h, _ => by cases h; exact .nil
  | (_, d) :: ds, _, h, l => by
    rw [lowF, Bool.and_eq_true] at l
    cases h with
    | cons h1 h2 => exact .cons (rp_low n d _ h1 l.1) (rf_low n ds _ h2 l.2)
theorem rk_low (n : Nat) : ∀ (ds : List (Key × D)) (vs : List (Key × V)), RpK K F al vs ds → lowK n ds = true → RpK K F (al.take n) vs ds
  | [], _, h, _ => by cases h; exact .nil
  | (_, d) :: ds, _, h, l => by
    rw [lowK, Bool.and_eq_true] at l
    cases h with
    | cons h1 h2 => exact .cons (rp_low n d _ h1 l.1) (rk_low n ds _ h2 l.2)
end
mutual
theorem low_of {n : Nat} (hn : al.length ≤ n) : ∀ (d : D) (v : V), Rp K F al v d → d.low n = true
  | .non, _, h => by simp [D.low]
  | .bl _, _, h => by simp [D.low]
  | .int _, _, h => by simp [D.low]
  | .str _, _, h => by simp [D.low]
  | .lst ds, _, h => by
    cases h with
    | lst h1 h2 => rw [D.low]; exact lowA_of hn ds _ h2
  | .sq ds, _, h => by
    cases h with
    | sq h1 h2 => rw [D.low]; exact lowA_of hn ds _ h2
  | .tup ds, _, h => by
    cases h with
    | tup h1 h2 => rw [D.low]; exact lowA_of hn ds _ h2
  | .ins C fs, _, h => by
    cases h with
    | ins h1 h2 => rw [D.low]; exact lowF_of hn fs _ h2
  | .dic fs, _, h => by
    cases h with
    | dic h1 h2 => rw [D.low]; exact lowK_of hn fs _ h2
  | .obj _, _, h => by simp [D.low]
  | .own m, _, h => by
    cases h with
    | own h1 =>
      have := (List.getElem?_eq_some_iff.mp h1).1
      rw [D.low, decide_eq_true_eq]
      omega
  | .ty _, _, h => by simp [D.low]
  | .exc C fs, _, h => by
    cases h with
    | exc0 h1 h2 h0 h3 => rw [D.low, lowF]
    | excD h1 h2 h0 h3 h4 h5 => rw [D.low]; exact lowF_of hn fs _ h5
theorem lowA_of {n : Nat} (hn : al.length ≤ n) : ∀ (ds : List D) (vs : List V), RpA K F al vs ds → lowA n ds = true
  | [], _, h => by rw [lowA]
  | d :: ds, _, h => by
    cases h with
    | cons h1 h2 => rw [lowA, low_of hn d _ h1, lowA_of hn ds _ h2] <;> rfl
theorem lowF_of {n : Nat} (hn : al.length ≤ n) : ∀ (ds : List (Str × D)) (vs : List (Str × V)), RpF K F al vs ds → lowF n ds = true
  | [], _, h => by rw [lowF]
  | (_, d) :: ds, _, h => by
    cases h with
    | cons h1 h2 => rw [lowF, low_of hn d _ h1, lowF_of hn ds _ h2] <;> rfl
theorem lowK_of {n : Nat} (hn : al.length ≤ n) : ∀ (ds : List (Key × D)) (vs : List (Key × V)), RpK K F al vs ds → lowK n ds = true
  | [], _, h => by rw [lowK]
  | (_, d) :: ds, _, h => by
    cases h with
    | cons h1 h2 => rw [lowK, low_of hn d _ h1, lowK_of hn ds _ h2] <;> rfl
end
end
def Cell.low (n : Nat) : Cell → Bool
  | .lst ds => lowA n ds
  | .ins _ fs => lowF n fs
  | .dct ks => ks.all fun p => p.2.low n
  | .dck ks => lowK n ks
  | .lck _ _ ks => lowK n ks
  | .gone => true
/-- behind a def: the cells of its own are left behind -/
def Cut (S0 S1 S' : Sto) : Prop := S0.length ≤ S1.length ∧ S1 <+: S' ∧ ∀ (h : Nat) (c : Cell), S1[h]? = some c → S0[h]? = some c ∨ c.low S1.length = true
def RetOk (S0 : Sto) (Φ : KD) : KD := fun S' d => Φ S' d ∨ ∃ S1, Cut S0 S1 S' ∧ d.low S1.length = true ∧ Φ S1 d
def ErOk (S0 : Sto) (Ψ : KX) : KX := fun S' x => Ψ S' x ∨ ∃ S1, Cut S0 S1 S' ∧ lowF S1.length x.fs = true ∧ Ψ S1 x
theorem Cut.same {S0 cs : Sto} : Cut S0 S0 (S0 ++ cs) := ⟨Nat.le_refl _, List.prefix_append _ _, fun h c e => .inl e⟩
theorem ret_cut {S0 cs : Sto} {Φ : KD} {d : D} (hl : d.low S0.length = true) (h : Φ S0 d) : RetOk S0 Φ (S0 ++ cs) d := .inr ⟨S0, Cut.same, hl, h⟩
theorem ret_now {S0 S : Sto} {Φ : KD} {d : D} (h : Φ S d) : RetOk S0 Φ S d := .inl h
section
variable {K : PySem.W.Frag} {w0 w' : Hs} {S0 S1 S' : Sto}
def Hs.tk (w : Hs) (n : Nat) : Hs := ⟨w.F, w.al.take n, w.H⟩
theorem cut_ok (g0 : Good K w0 S0) (e : Ext w0 w') (g' : Good K w' S') (c : Cut S0 S1 S') : Ext w0 (w'.tk S1.length) ∧ Good K (w'.tk S1.length) S1 := by
  obtain ⟨hl, ⟨cs, hp⟩, hc⟩ := c
  have hle : S1.length ≤ w'.al.length := by rw [g'.len, ← hp, List.length_append]; omega
  have get : ∀ (n : Nat) (a : Addr), (w'.al.take S1.length)[n]? = some a → n < S1.length ∧ w'.al[n]? = some a := fun n a q => by
    have h1 := (List.getElem?_eq_some_iff.mp q).1
    rw [List.length_take] at h1
    have h2 : n < S1.length := by omega
    rw [List.getElem?_take_of_lt h2] at q
    exact ⟨h2, q⟩
  refine ⟨⟨e.f, ?_, e.new, e.kp, e.dm⟩, ⟨g'.sub, g'.nd.sublist (List.take_sublist _ _), ?_, fun n a cc q1 q2 => ?_, fun a q => g'.dom a (List.mem_of_mem_take q)⟩⟩
  · obtain ⟨β, eb, hb⟩ := e.al
    refine ⟨β.take (S1.length - w0.al.length), ?_, fun b q => hb b (List.mem_of_mem_take q)⟩
    show w'.al.take S1.length = _
    rw [eb, List.take_append, List.take_of_length_le (by rw [g0.len]; exact hl)]
  · show (w'.al.take S1.length).length = _
    rw [List.length_take]; omega
  · obtain ⟨h2, q1⟩ := get n a q1
    have q3 : S'[n]? = some cc := by rw [← hp, List.getElem?_append_left h2]; exact q2
    have ok := g'.cell n a cc q1 q3
    cases cc with
    | gone => exact True.intro
    | lst ds =>
      obtain ⟨hF, xs, hH, ra⟩ := ok
      refine ⟨hF, xs, hH, ra_low _ ds xs ra ?_⟩
      rcases hc n _ q2 with z | z
      · have hn0 : n < w0.al.length := by rw [g0.len]; exact (List.getElem?_eq_some_iff.mp z).1
        have q0 : w0.al[n]? = some w0.al[n] := List.getElem?_eq_getElem hn0
        obtain ⟨_, ys, _, r0⟩ := g0.cell n _ _ q0 z
        exact lowA_of (by rw [g0.len]; exact hl) ds ys r0
      · exact z
    | ins C fs =>
      obtain ⟨hF, dx, xs, hH, ra⟩ := ok
      refine ⟨hF, dx, xs, hH, rf_low _ fs xs ra ?_⟩
      rcases hc n _ q2 with z | z
      · have hn0 : n < w0.al.length := by rw [g0.len]; exact (List.getElem?_eq_some_iff.mp z).1
        have q0 : w0.al[n]? = some w0.al[n] := List.getElem?_eq_getElem hn0
        obtain ⟨_, _, ys, _, r0⟩ := g0.cell n _ _ q0 z
        exact lowF_of (by rw [g0.len]; exact hl) fs ys r0
      · exact z
    | dct ks =>
      obtain ⟨hF, us, hH, ra⟩ := ok
      refine ⟨hF, us, hH, ra.1, fun i k d q => ?_⟩
      obtain ⟨v, q5, rv⟩ := ra.2 i k d q
      refine ⟨v, q5, rp_low _ d v rv ?_⟩
      rcases hc n _ q2 with z | z
      · have hn0 : n < w0.al.length := by rw [g0.len]; exact (List.getElem?_eq_some_iff.mp z).1
        have q0 : w0.al[n]? = some w0.al[n] := List.getElem?_eq_getElem hn0
        obtain ⟨_, ys, _, r0⟩ := g0.cell n _ _ q0 z
        obtain ⟨v0, _, rv0⟩ := r0.2 i k d q
        exact low_of (by rw [g0.len]; exact hl) d v0 rv0
      · have z : (ks.all fun p => p.2.low S1.length) = true := z
        rw [List.all_eq_true] at z
        exact z (k, d) (List.mem_of_getElem? q)
    | dck ks =>
      obtain ⟨hF, us, hH, ra⟩ := ok
      refine ⟨hF, us, hH, rk_low _ ks us ra ?_⟩
      rcases hc n _ q2 with z | z
      · have hn0 : n < w0.al.length := by rw [g0.len]; exact (List.getElem?_eq_some_iff.mp z).1
        have q0 : w0.al[n]? = some w0.al[n] := List.getElem?_eq_getElem hn0
        obtain ⟨_, ys, _, r0⟩ := g0.cell n _ _ q0 z
        exact lowK_of (by rw [g0.len]; exact hl) ks ys r0
      · exact z
    | lck o us ks =>
      obtain ⟨hF, hH, ra⟩ := ok
      refine ⟨hF, hH, rk_low _ ks us ra ?_⟩
      rcases hc n _ q2 with z | z
      · have hn0 : n < w0.al.length := by rw [g0.len]; exact (List.getElem?_eq_some_iff.mp z).1
        have q0 : w0.al[n]? = some w0.al[n] := List.getElem?_eq_getElem hn0
        obtain ⟨_, _, r0⟩ := g0.cell n _ _ q0 z
        exact lowK_of (by rw [g0.len]; exact hl) ks us r0
      · exact z
end
theorem body_ok2 {K : PySem.W.Frag} {N : List Str} {t : TS} {T : TSd} {sp : DSpec} {E : XK} (hb : SemS K (WD E) t T) (h : ∀ ds S Φ Ψ, sp ds S Φ Ψ → T { nx := fun _ S' => RetOk S Φ S' .non, rt := RetOk S Φ, er := ErOk S Ψ } (gstart N ds) S) {vs : List V} {H : Hp} {Q : VK} (hs : spOf K sp vs H Q E) :
    t { nx := fun _ H' => Q .non H', rt := Q } (L2.start N vs) H := by
  obtain ⟨w, S, ds, Φ, Ψ, rfl, g, r, h1, q, hx⟩ := hs
  have qr : OkD K w (RetOk S Φ) Q := fun v d w' S' e' g' r' hr => by
    rcases hr with hr | ⟨S1, c, hl, hr⟩
    · exact q v d w' S' e' g' r' hr
    · obtain ⟨e2, g2⟩ := cut_ok g e' g' c
      exact q v d (w'.tk S1.length) S1 e2 g2 (rp_low _ d v r' hl) hr
  refine hb _ _ S _ w _ g (slots_start r) (h ds S Φ Ψ h1) ⟨fun σ' Γ' w' S' e' g' _ h' => qr .non .non w' S' e' g' .non h', qr, fun _ _ _ _ _ _ _ z => z.elim, fun _ _ _ _ _ _ _ z => z.elim, fun _ cv dx x w' S' e' g' r' h' => ?_⟩
  rcases h' with h' | ⟨S1, c, hl, h'⟩
  · exact hx cv dx x w' S' e' g' r' h'
  · obtain ⟨e2, g2⟩ := cut_ok g e' g' c
    refine hx cv dx x (w'.tk S1.length) S1 e2 g2 ⟨r'.1, ?_⟩ h'
    cases dx with
    | none => exact r'.2
    | some a =>
      obtain ⟨vs, k1, k2⟩ := r'.2
      exact ⟨vs, k1, rf_low _ _ _ k2 hl⟩
abbrev FunS (K : PySem.W.Frag) (x : Str) (st : Stmt) (f : Addr) (fd : FuncData) : Prop := FunD K x x (defArgs st) (defBody st) (defScope st) [] [] f fd
section
variable (P : Program) (wd : World) (K : PySem.W.Frag) (mg : Str → Option Value) (base : Heap)
/-- a callee by its name -/
structure Cal (x : Str) (st : Stmt) (k : Nat) (ps : List Str) (sp : DSpec) : Prop where
  ex : ∃ (f : Addr) (fd : FuncData), FnOk P wd K mg base (L2.CX P wd) k f fd ps (spOf K sp) ∧ mg x = some (.ref f) ∧ FunS K x st f fd ∧ Binds K fd ps []
structure CalG (x : Str) (st : Stmt) (k : Nat) (ps : List Str) (sp : DSpec) : Prop where
  ex : ∃ (f : Addr) (fd : FuncData), FnOkG P wd K mg base (L2.CX P wd) k f fd ps (spOf K sp) ∧ mg x = some (.ref f) ∧ FunS K x st f fd ∧ Binds K fd ps []
/-- a class of errors -/
structure ExcF (x : Str) (C : Addr) : Prop where
  q : PySem.W.excIn K C He.veBase "ValueError.__new__" = true
  g : mg x = some (.ref C)
  k : PySem.W.keepIn K (.ref C) = true
  b : PySem.W.subIn K (.ref C) (.type "BaseException") = some true
  t : PySem.W.typeIn K (.ref C) = some (.type "type")
/-- a def of the text -/
structure Tx (x : Str) (st : Stmt) : Prop where
  ex : ∃ (f : Addr) (fd : FuncData), FunS K x st f fd ∧ mg x = some (.ref f)
end
section
variable {P : Program} {wd : World} {K : PySem.W.Frag} {mg : Str → Option Value} {base : Heap} {x : Str} {st : Stmt} {k : Nat} {ps : List Str} {sp : DSpec}
theorem Cal.g (c : Cal P wd K mg base x st k ps sp) : CalG P wd K mg base x st k ps sp := let ⟨f, fd, h, r⟩ := c.ex; ⟨f, fd, FnOkG.of h, r⟩
theorem binds_of {f : Addr} {fd : FuncData} (F : FunS K x st f fd)
    (h : ∀ (kV doc pm : Value) (an : Option Addr) (cdv ct : Value) (us : List Value), us.length = ps.length → bindArgs (PySem.W.fnOf x x (defArgs st) (defBody st) (defScope st) .none kV doc pm an cdv ct) ⟨us, []⟩ = pure (ps.zip us)) : Binds K fd ps [] := F.bindsN h
theorem calG_ok {N : List Str} (F : Tx K mg x st)
    (hbind : ∀ (kV doc pm : Value) (an : Option Addr) (cdv ct : Value) (us : List Value), us.length = ps.length → bindArgs (PySem.W.fnOf x x (defArgs st) (defBody st) (defScope st) .none kV doc pm an cdv ct) ⟨us, []⟩ = pure (ps.zip us))
    (Sc : FnScope N ps (defScope st)) (len : ∀ ds S Φ Ψ, sp ds S Φ Ψ → ds.length = ps.length)
    (hbody : ∀ (f : Addr) (cdv : Value) (A : Around) (outer : List Env) (s : Shared) (H : Hp) (E : XK), (A.deeper (envOfC x (defScope st) s.heap.objs.size f cdv)).guards = some [] → Room k (A.deeper (envOfC x (defScope st) s.heap.objs.size f cdv)) →
      ∃ t T, JB (cxOf (L2.CX P wd) P wd K mg base N x (defScope st) f cdv A outer s H E) (WD E) (defBody st) t T ∧ ∀ ds S Φ Ψ, sp ds S Φ Ψ → T { nx := fun _ S' => RetOk S Φ S' .non, rt := RetOk S Φ, er := ErOk S Ψ } (gstart N ds) S) :
    CalG P wd K mg base x st (k + 1) ps sp := by
  obtain ⟨f, fd, F, hm⟩ := F.ex
  refine ⟨f, fd, ?_, hm, F, binds_of F hbind⟩
  obtain ⟨_, _, _, _, _, _, _, cdv, _, _, e, lk, hcd, _, _⟩ := F.ex
  subst e
  refine fn_ofG lk hcd Sc (fun vs H Q E h => ?_) fun A outer s H vs Q E hG hr hs => ?_
  · obtain ⟨w, S, ds, Φ, Ψ, _, _, r, h1, _⟩ := h
    rw [r.length]
    exact len ds S Φ Ψ h1
  · obtain ⟨t, T, jb, hq⟩ := hbody f cdv A outer s H E (by show A.guards = some []; exact hG) hr
    exact ⟨t, jb.pss, body_ok2 jb.sem hq hs⟩
end
section
variable {X : Cx} {W : WX} {e : Expr} {es : List Expr} {pos p : Pos} {tl tk' : TA} {Tl Tk : TL} {k n : Nat} {ps ks : List Str} {sp : DSpec} {x : Str} {st : Stmt} {kws : List Keyword}
theorem je_callCG (c : CalG X.prog X.w X.K X.mg X.base x st k ps sp) (gd : X.A.guards = some []) (hr : Room k X.A) (hg : Gl X x) (tk : Takes X W) (ha : JA X W (e :: es) tl Tl) (hdb : (x == ("__debug__" : Str)) = false := by decide)
    (he : starEach (e :: es) X.env = (false, eval e X.env) :: starEach es X.env := by rfl) (hpl : (backTo pos (starEach es X.env)).any (·.1) = false := by rfl) : JE X W (.Call (.Name x p) (e :: es) [] pos) (tCallS (spOf X.K sp) (WE W) tl) (dCall sp Tl) := by
  obtain ⟨f, fd, F, hm, hk, hb⟩ := c.ex
  exact je_callG F gd hr hg hm hk.kp hb tk ha hdb he hpl
theorem js_raiseC {m : Str} {C : Addr} {j : Nat} {p2 pos' : Pos} (c : ExcF X.K X.mg x C) (hc : X.calm = true) (tk : Takes X W) (hg : Gl X x) (hdb : (x == ("__debug__" : Str)) = false := by decide) :
    JS X W (.Raise (some (.Call (.Name x p) [.Constant (.str m) j p2] [] pos')) none pos) (fun _ σ H => (fun (_ : L2.St) (H : Hp) (Q : XK) => Q (.ref C) none H) σ H fun cls d H' => W cls d σ H') (sRaise C) := js_raise hc tk c.q c.g c.k c.b c.t hg hdb
/-- keywords -/
structure JK (X : Cx) (W : WX) (kws : List Keyword) (t : TA) (T : TL) : Prop where
  pk : PK X kws t
  sem : SemA X.K W t T
theorem jk_nil : JK X W [] tNil lNil := ⟨pk_nil, (ja_nil (X := X)).sem⟩
theorem jk_cons {nm : Option Str} {kpos : Pos} {te : TE} {Te : TD} (ha : JE X W e te Te) (hr : JK X W kws tl Tl) : JK X W (⟨nm, e, kpos⟩ :: kws) (tCons te tl) (lCons Te Tl) := ⟨pk_cons ha.pe hr.pk, fun Γ S Φ Ψ σ w g sl h hx Q q =>
  ha.sem Γ S _ Ψ σ w g sl h hx _ fun v d w1 S1 e1 g1 r1 h1 => hr.sem Γ S1 _ Ψ σ w1 g1 (sl.ext e1) h1 (hx.ext e1) _ fun vs ds w2 S2 e2 g2 r2 h2 => q _ _ w2 S2 (e1.trans e2) g2 (.cons (e2.rp r1) r2) h2⟩
def dCallK (n m : Nat) (sp : DSpec) (g : List D → List D → List D) (T Tk : TL) : TD := fun Γ S Φ Ψ => T Γ S (fun S1 ds => Tk Γ S1 (fun S2 es => ds.length = n ∧ es.length = m ∧ sp (g ds es) S2 Φ Ψ) Ψ) Ψ
end
end DL
namespace DL
open PySem PySem.Spec PyProof.Rows L2
section
variable {X : Cx} {W : WX} {a b c : Expr} {pos : Pos} {tl : TA} {Tl : TL}
def sPar3 (i j l : Nat) (T : TL) : TSd := fun D Γ S => T Γ S (fun S1 ds => ∃ x y z, ds = [x, y, z] ∧ D.nx (((Γ.set i (some x)).set j (some y)).set l (some z)) S1) D.er
theorem js_par3 (i j l : Nat) {x y z : Str} {px py pz pt : Pos} {kt k2 pt2} (hc : X.calm = true) (hN : X.N.Nodup) (ha : JA X W [a, b, c] tl Tl) (hij : i ≠ j := by decide) (hil : i ≠ l := by decide) (hjl : j ≠ l := by decide) (hi : X.N[i]? = some x := by rfl) (hj : X.N[j]? = some y := by rfl) (hl : X.N[l]? = some z := by rfl)
    (hx : X.env.scope.names.lookup x = some .local := by rfl) (hy : X.env.scope.names.lookup y = some .local := by rfl) (hz : X.env.scope.names.lookup z = some .local := by rfl)
    (hw : swappedStores [.Tuple [.Name x px, .Name y py, .Name z pz] kt pt] (.Tuple [a, b, c] k2 pt2) X.env = pure (some [x, y, z]) := by rfl)
    (hsw : swapsWithSole [.Tuple [.Name x px, .Name y py, .Name z pz] kt pt] (.Tuple [a, b, c] k2 pt2) pos.line X.env = pure false := by rfl) :
    JS X W (.Assign [.Tuple [.Name x px, .Name y py, .Name z pz] kt pt] (.Tuple [a, b, c] k2 pt2) pos) (tPar3 i j l tl) (sPar3 i j l Tl) :=
  ⟨ps_par3 hc hN hi hj hl hij hil hjl hx hy hz ha.pa hw hsw, fun D' Γ S σ w D g sl hT r =>
    ha.sem Γ S _ _ σ w g sl hT (r.er σ) _ fun vs ds w1 S1 e1 g1 r1 ⟨x, y, z, e, h1⟩ => by
      subst e
      cases r1 with
      | cons ra rb =>
        obtain ⟨v2, v3, rfl, rc, rd⟩ := two_of rb
        exact ⟨_, _, _, rfl, r.nx _ _ w1 S1 e1 g1 ((((sl.ext e1).set ra i).set rc j).set rd l) h1⟩⟩
end
def pick {α : Type} (perm : List Nat) (as es : List α) : List α := perm.filterMap fun i => (as ++ es)[i]?
theorem pick_vals {vs zs : List V} {us ws : List Value} (h : Vals vs us) (h2 : Vals zs ws) : ∀ perm : List Nat, Vals (pick perm vs zs) (pick perm us ws)
  | [] => .nil
  | i :: r => by
    have ih := pick_vals h h2 r
    have ap := Vals.append h h2
    unfold pick at ih ⊢
    rw [List.filterMap_cons, List.filterMap_cons]
    cases e : (vs ++ zs)[i]? with
    | none => rw [ap.none_of e]; exact ih
    | some v =>
      obtain ⟨u, e2, r2⟩ := ap.get e
      rw [e2]
      exact .cons r2 ih
theorem pick_ra {K : PySem.W.Frag} {w : Hs} {vs zs : List V} {ds es : List D} (h : Ra K w vs ds) (h2 : Ra K w zs es) : ∀ perm : List Nat, Ra K w (pick perm vs zs) (pick perm ds es)
  | [] => .nil
  | i :: r => by
    have ih := pick_ra h h2 r
    have ap := RpA.append h h2
    unfold pick at ih ⊢
    rw [List.filterMap_cons, List.filterMap_cons]
    cases e : (vs ++ zs)[i]? with
    | none =>
      have e2 : (ds ++ es)[i]? = none := by
        have h1 := List.getElem?_eq_none_iff.mp e
        rw [ap.length] at h1
        exact List.getElem?_eq_none h1
      rw [e2]; exact ih
    | some v =>
      obtain ⟨u, e2, r2⟩ := ap.getV e
      rw [e2]
      exact .cons r2 ih
/-- an item by an open place: all items will do -/
theorem ix_all {α : Type} {xs : List α} {i : Int} (h0 : 0 ≤ i) (h1 : i < xs.length) : ∃ x, atI xs i = some x ∧ x ∈ xs := by
  refine ⟨xs[i.toNat]'(by omega), ?_, List.getElem_mem _⟩
  have e : ixN xs.length i = some i.toNat := by
    unfold ixN
    rw [if_pos h0, if_pos h1]
  unfold atI
  rw [e]
  exact List.getElem?_eq_getElem (by omega)
theorem lowA_ints (n : Nat) : ∀ xs : List Int, lowA n (xs.map D.int) = true
  | [] => by simp [lowA]
  | x :: xs => by rw [List.map_cons, lowA, lowA_ints n xs, D.low] <;> rfl
theorem lowA_map {α : Type} (n : Nat) (f : α → D) (h : ∀ x, (f x).low n = true) : ∀ xs : List α, lowA n (xs.map f) = true
  | [] => by simp [lowA]
  | x :: xs => by rw [List.map_cons, lowA, lowA_map n f h xs, h] <;> rfl
theorem get_app {S T : Sto} {h : Nat} {c : Cell} (e : S[h]? = some c) : (S ++ T)[h]? = some c := by
  rw [List.getElem?_append_left (List.getElem?_eq_some_iff.mp e).1]
  exact e
theorem get_at {S T : Sto} {c : Cell} : (S ++ c :: T)[S.length]? = some c := by
  rw [List.getElem?_append_right (Nat.le_refl _), Nat.sub_self] <;> rfl
theorem set_app {S T : Sto} {h : Nat} {c : Cell} (e : h < S.length) : (S ++ T).set h c = S.set h c ++ T := List.set_append_left h c e
theorem set_at {S T : Sto} {b c : Cell} : (S ++ b :: T).set S.length c = S ++ c :: T := by
  rw [List.set_append_right _ _ (Nat.le_refl _), Nat.sub_self] <;> rfl
def FdC (n : Nat) (c : Cell) : Prop := ∃ a b k : Int, c = .lst [.int a, .int b, .int k] ∧ 0 ≤ a ∧ 0 ≤ b ∧ b < 2 ^ 200 ∧ 0 ≤ k ∧ k ≤ n
def FdAt (S : Sto) (h : Nat) (n : Nat) : Prop := ∃ c, S[h]? = some c ∧ FdC n c
/-- S' is S but for the feed at h -/
def Fs (h n : Nat) (S S' : Sto) : Prop := ∃ c, FdC n c ∧ S' = S.set h c
theorem FdC.mono {n m : Nat} {c : Cell} (h : FdC n c) (l : n ≤ m) : FdC m c := by
  obtain ⟨a, b, k, e, h1, h2, h3, h4, h5⟩ := h
  exact ⟨a, b, k, e, h1, h2, h3, h4, by omega⟩
theorem FdAt.mono {S : Sto} {h n m : Nat} (f : FdAt S h n) (l : n ≤ m) : FdAt S h m := let ⟨c, e, q⟩ := f; ⟨c, e, q.mono l⟩
theorem FdAt.lt {S : Sto} {h n : Nat} (f : FdAt S h n) : h < S.length := let ⟨_, e, _⟩ := f; (List.getElem?_eq_some_iff.mp e).1
theorem Fs.mono {h n m : Nat} {S S' : Sto} (f : Fs h n S S') (l : n ≤ m) : Fs h m S S' := let ⟨c, q, e⟩ := f; ⟨c, q.mono l, e⟩
theorem Fs.at {h n : Nat} {S S' : Sto} (f : Fs h n S S') (hl : h < S.length) : FdAt S' h n := by
  obtain ⟨c, q, rfl⟩ := f
  exact ⟨c, by rw [List.getElem?_set_self hl], q⟩
theorem Fs.refl {h n : Nat} {S : Sto} (f : FdAt S h n) : Fs h n S S := by
  obtain ⟨c, e, q⟩ := f
  refine ⟨c, q, ?_⟩
  obtain ⟨hl, e2⟩ := List.getElem?_eq_some_iff.mp e
  rw [← e2, List.set_getElem_self]
theorem Fs.trans {h n m : Nat} {S S1 S2 : Sto} (a : Fs h n S S1) (b : Fs h m S1 S2) : Fs h m S S2 := by
  obtain ⟨c, _, rfl⟩ := a
  obtain ⟨c2, q, rfl⟩ := b
  exact ⟨c2, q, by rw [List.set_set]⟩
theorem Fs.len {h n : Nat} {S S' : Sto} (f : Fs h n S S') : S'.length = S.length := by
  obtain ⟨c, _, rfl⟩ := f
  rw [List.length_set]
/-- cells behind it stay -/
theorem Fs.app {h n : Nat} {S T S' : Sto} (f : Fs h n (S ++ T) S') (hl : h < S.length) : ∃ S1, Fs h n S S1 ∧ S' = S1 ++ T := by
  obtain ⟨c, q, rfl⟩ := f
  exact ⟨S.set h c, ⟨c, q, rfl⟩, set_app hl⟩
theorem FdAt.app {S T : Sto} {h n : Nat} (f : FdAt S h n) : FdAt (S ++ T) h n := let ⟨c, e, q⟩ := f; ⟨c, get_app e, q⟩
theorem Fs.get {h n i : Nat} {S S' : Sto} {c : Cell} (f : Fs h n S S') (e : S[i]? = some c) (hi : h ≠ i) : S'[i]? = some c := by
  obtain ⟨c2, _, rfl⟩ := f
  rw [List.getElem?_set_ne hi]
  exact e
/-- a def that draws: behind it the feed is a feed, by at most n draws more -/
theorem cut_feed {h n : Nat} {S S1 cs : Sto} (f : Fs h n S S1) : Cut S S1 (S1 ++ cs) := by
  refine ⟨by rw [f.len]; exact Nat.le_refl _, List.prefix_append _ _, fun i c e => ?_⟩
  obtain ⟨c2, ⟨a, b, k, ec, _⟩, rfl⟩ := f
  by_cases hi : h = i
  · subst hi
    by_cases hl : h < S.length
    · rw [List.getElem?_set_self hl] at e
      cases e
      subst ec
      exact .inr (by simp [Cell.low, lowA, D.low])
    · rw [List.getElem?_eq_none (by rw [List.length_set]; omega)] at e
      cases e
  · rw [List.getElem?_set_ne hi] at e
    exact .inl e
theorem ret_feed {h n : Nat} {S S1 cs : Sto} {Φ : KD} {d : D} (f : Fs h n S S1) (hl : d.low S1.length = true) (q : Φ S1 d) : RetOk S Φ (S1 ++ cs) d := .inr ⟨S1, cut_feed f, hl, q⟩
end DL
namespace DL
open PySem PySem.Spec PyProof.Rows L2
def fzLD : List D → Sto → (Sto → List D → Prop) → Prop
  | [], S, Φ => Φ S []
  | d :: ds, S, Φ => fzD d S fun S1 d' => fzLD ds S1 fun S2 ds' => Φ S2 (d' :: ds')
def fzD2 (d : D) (S : Sto) (Φ : KD) : Prop := match d with
  | .own h => ∃ ds, S[h]? = some (.lst ds) ∧ fzLD ds (S.set h .gone) fun S' ds' => Φ S' (.lst ds')
  | d => Φ S d
def dFz2 (T : TD) : TD := fun Γ S Φ Ψ => T Γ S (fun S1 d => fzD2 d S1 Φ) Ψ
section
variable {S : Sto} {Φ : KD} {i j : Int} {ds es : List D} {k : Bool}
theorem ex1 {α : Type} {a : α} {P : α → Prop} : (∃ x, [a] = [x] ∧ P x) ↔ P a := ⟨fun ⟨x, e, h⟩ => by cases e; exact h, fun h => ⟨a, rfl, h⟩⟩
theorem ex2 {α : Type} {a b : α} {P : α → α → Prop} : (∃ x y, [a, b] = [x, y] ∧ P x y) ↔ P a b := ⟨fun ⟨x, y, e, h⟩ => by cases e; exact h, fun h => ⟨a, b, rfl, h⟩⟩
theorem ex3 {α : Type} {a b c : α} {P : α → α → α → Prop} : (∃ x y z, [a, b, c] = [x, y, z] ∧ P x y z) ↔ P a b c := ⟨fun ⟨x, y, z, e, h⟩ => by cases e; exact h, fun h => ⟨a, b, c, rfl, h⟩⟩
theorem exB {b : Bool} {P : Bool → Prop} : (∃ k, D.bl b = .bl k ∧ P k) ↔ P b := ⟨fun ⟨x, e, h⟩ => by cases e; exact h, fun h => ⟨b, rfl, h⟩⟩
theorem exI {b : Int} {P : Int → Prop} : (∃ k, D.int b = .int k ∧ P k) ↔ P b := ⟨fun ⟨x, e, h⟩ => by cases e; exact h, fun h => ⟨b, rfl, h⟩⟩
theorem exI1 {b : Int} {P : Int → Prop} : (∃ k, [D.int b] = [.int k] ∧ P k) ↔ P b := ⟨fun ⟨x, e, h⟩ => by cases e; exact h, fun h => ⟨b, rfl, h⟩⟩
theorem exI2 {a b : Int} {P : Int → Int → Prop} : (∃ i j, [D.int a, D.int b] = [.int i, .int j] ∧ P i j) ↔ P a b := ⟨fun ⟨x, y, e, h⟩ => by cases e; exact h, fun h => ⟨a, b, rfl, h⟩⟩
theorem exS {α : Type} {a : α} {P : α → Prop} : (∃ d, some a = some d ∧ P d) ↔ P a := ⟨fun ⟨x, e, h⟩ => by cases e; exact h, fun h => ⟨a, rfl, h⟩⟩
theorem exSS {α : Type} {a : α} {P : α → Prop} : (∃ d, some (some a) = some (some d) ∧ P d) ↔ P a := ⟨fun ⟨x, e, h⟩ => by cases e; exact h, fun h => ⟨a, rfl, h⟩⟩
theorem exT {ts : List D} {P : List D → Prop} : (∃ ds, D.tup ts = .tup ds ∧ P ds) ↔ P ts := ⟨fun ⟨x, e, h⟩ => by cases e; exact h, fun h => ⟨ts, rfl, h⟩⟩
theorem exC {α : Type} {a : α} {l : List α} {P : α → List α → Prop} : (∃ d r, a :: l = d :: r ∧ P d r) ↔ P a l := ⟨fun ⟨x, y, e, h⟩ => by cases e; exact h, fun h => ⟨a, l, rfl, h⟩⟩
theorem exL {a : List D} {P : List D → Prop} : (∃ d, some (Cell.lst a) = some (.lst d) ∧ P d) ↔ P a := ⟨fun ⟨x, e, h⟩ => by cases e; exact h, fun h => ⟨a, rfl, h⟩⟩
theorem exAs {a : List D} {P : List D → Prop} : (∃ xs, some a = some xs ∧ P xs) ↔ P a := ⟨fun ⟨x, e, h⟩ => by cases e; exact h, fun h => ⟨a, rfl, h⟩⟩
theorem dAdd_i : dAdd (.int i) (.int j) S Φ = Φ S (.int (i + j)) := rfl
theorem dAdd_l : dAdd (.lst ds) (.lst es) S Φ = (ds.length + es.length ≤ sizeLine ∧ Φ S (.lst (ds ++ es))) := by
  show (∃ xs ys, some ds = some xs ∧ some es = some ys ∧ xs.length + ys.length ≤ sizeLine ∧ Φ S (.lst (xs ++ ys))) = _
  exact propext ⟨fun ⟨_, _, e1, e2, h⟩ => by cases e1; cases e2; exact h, fun h => ⟨_, _, rfl, rfl, h⟩⟩
theorem dSub_i : dSub (.int i) (.int j) S Φ = Φ S (.int (i - j)) := rfl
theorem dMul_i : dMul (.int i) (.int j) S Φ = (CMulA i j ∧ Φ S (.int (i * j))) := rfl
theorem dMul_l : dMul (.lst ds) (.int j) S Φ = (-(2 ^ 63) ≤ j ∧ j < 2 ^ 63 ∧ ds.length * j.toNat ≤ sizeLine ∧ Φ S (.lst ((List.replicate j.toNat ds).flatten))) := by
  show (∃ xs, some ds = some xs ∧ _) = _
  exact propext exAs
theorem dMod_i : dMod (.int i) (.int j) S Φ = (0 < j ∧ Φ S (.int (i % j))) := rfl
theorem dDiv_i : dDiv (.int i) (.int j) S Φ = (CDivW i j ∧ Φ S (.int (i / j))) := rfl
theorem dPow_i : dPow (.int i) (.int j) S Φ = (CPowW i j ∧ Φ S (.int (i ^ j.toNat))) := rfl
theorem dLt_i : dLt (.int i) (.int j) S Φ = Φ S (.bl (decide (i < j))) := rfl
theorem dLe_i : dLe (.int i) (.int j) S Φ = Φ S (.bl (decide (i ≤ j))) := rfl
theorem dGt_i : dGt (.int i) (.int j) S Φ = Φ S (.bl (decide (j < i))) := rfl
theorem dGe_i : dGe (.int i) (.int j) S Φ = Φ S (.bl (decide (j ≤ i))) := rfl
theorem uNeg_i : uNeg (.int i) S Φ = Φ S (.int (-i)) := rfl
theorem cMax2_i : cMax2 [.int i, .int j] S Φ = Φ S (.int (if j > i then j else i)) := rfl
theorem cMin2_i : cMin2 [.int i, .int j] S Φ = Φ S (.int (if j < i then j else i)) := rfl
theorem cAbs_i : cAbs [.int i] S Φ = Φ S (.int (if i < 0 then -i else i)) := rfl
theorem cInt_i : cInt [.int i] S Φ = Φ S (.int i) := rfl
theorem cInt_b : cInt [.bl k] S Φ = Φ S (.int (if k then 1 else 0)) := rfl
theorem cLen_l : cLen [.lst ds] S Φ = Φ S (.int ds.length) := by
  show (∃ xs, some ds = some xs ∧ Φ S (.int xs.length)) = _
  exact propext exAs
theorem cLen_q : cLen [.sq ds] S Φ = Φ S (.int ds.length) := by
  show (∃ xs, some ds = some xs ∧ Φ S (.int xs.length)) = _
  exact propext exAs
theorem cLen_t : cLen [.tup ds] S Φ = Φ S (.int ds.length) := by
  show (∃ xs, some ds = some xs ∧ Φ S (.int xs.length)) = _
  exact propext exAs
theorem cList_l : cList [.lst ds] S Φ = Φ S (.lst ds) := propext exAs
theorem cList_q : cList [.sq ds] S Φ = Φ S (.lst ds) := propext exAs
theorem cList_t : cList [.tup ds] S Φ = Φ S (.lst ds) := propext exAs
theorem cListO_l : cListO [.lst ds] S Φ = Φ (S ++ [.lst ds]) (.own S.length) := propext exAs
theorem cListO_t : cListO [.tup ds] S Φ = Φ (S ++ [.lst ds]) (.own S.length) := propext exAs
theorem dIx_l : dIx (.lst ds) (.int i) S Φ = ∃ d, atI ds i = some d ∧ Φ S d := by
  show (∃ es d, some ds = some es ∧ atI es i = some d ∧ Φ S d) = _
  exact propext ⟨fun ⟨_, d, e, h⟩ => by cases e; exact ⟨d, h⟩, fun ⟨d, h⟩ => ⟨_, d, rfl, h⟩⟩
theorem dIx_q : dIx (.sq ds) (.int i) S Φ = ∃ d, atI ds i = some d ∧ Φ S d := by
  show (∃ es d, some ds = some es ∧ atI es i = some d ∧ Φ S d) = _
  exact propext ⟨fun ⟨_, d, e, h⟩ => by cases e; exact ⟨d, h⟩, fun ⟨d, h⟩ => ⟨_, d, rfl, h⟩⟩
theorem dIx_t : dIx (.tup ds) (.int i) S Φ = ∃ d, atI ds i = some d ∧ Φ S d := by
  show (∃ es d, some ds = some es ∧ atI es i = some d ∧ Φ S d) = _
  exact propext ⟨fun ⟨_, d, e, h⟩ => by cases e; exact ⟨d, h⟩, fun ⟨d, h⟩ => ⟨_, d, rfl, h⟩⟩
theorem dIx_o {h : Nat} : dIx (.own h) (.int i) S Φ = ∃ ds d, S[h]? = some (.lst ds) ∧ atI ds i = some d ∧ Φ S d := by
  show (∃ es d, asS S (.own h) = some es ∧ atI es i = some d ∧ Φ S d) = _
  refine propext ⟨fun ⟨es, d, e, q⟩ => ?_, fun ⟨es, d, e, q⟩ => ⟨es, d, ?_, q⟩⟩
  · have e : (match S[h]? with | some (.lst ds) => some ds | _ => none) = some es := e
    split at e
    · cases e; exact ⟨es, d, by assumption, q⟩
    · cases e
  · show (match S[h]? with | some (.lst ds) => some ds | _ => none) = some es
    rw [e]
theorem dSlL_l {lo hi : Option Int} : dSlL (.lst ds) lo hi S Φ = Φ S (.lst (cutD ds lo hi)) := propext exAs
theorem dSlL_q {lo hi : Option Int} : dSlL (.sq ds) lo hi S Φ = Φ S (.lst (cutD ds lo hi)) := propext exAs
theorem asQ_l : asQ S (.lst ds) = some ds := rfl
theorem asL_l : asL S (.lst ds) = some ds := rfl
theorem asL_at' {h : Nat} (e : S[h]? = some (.lst ds)) : asL S (.own h) = some ds := by
  show (match S[h]? with | some (.lst ds) => some ds | _ => none) = some ds
  rw [e]
theorem asQ_at' {h : Nat} (e : S[h]? = some (.lst ds)) : asQ S (.own h) = some ds := by
  show (match S[h]? with | some (.lst ds) => some ds | _ => none) = some ds
  rw [e]
theorem cIsi_of {d : D} {a n : String} (e : tyOf S d = some a) (h : n ∈ tyN := by decide) : cIsi [d, .ty n] S Φ = Φ S (.bl (isTyB a n)) := by
  show (∃ a, tyOf S d = some a ∧ n ∈ tyN ∧ Φ S (.bl (isTyB a n))) = _
  rw [e]
  exact propext ⟨fun ⟨_, e, _, z⟩ => by cases e; exact z, fun z => ⟨_, rfl, h, z⟩⟩
theorem isi_non_int  : cIsi [.non, .ty "int"] S Φ = Φ S (.bl false) := cIsi_of (a := "NoneType") rfl
theorem isi_non_bool  : cIsi [.non, .ty "bool"] S Φ = Φ S (.bl false) := cIsi_of (a := "NoneType") rfl
theorem isi_non_str  : cIsi [.non, .ty "str"] S Φ = Φ S (.bl false) := cIsi_of (a := "NoneType") rfl
theorem isi_non_list  : cIsi [.non, .ty "list"] S Φ = Φ S (.bl false) := cIsi_of (a := "NoneType") rfl
theorem isi_non_tuple  : cIsi [.non, .ty "tuple"] S Φ = Φ S (.bl false) := cIsi_of (a := "NoneType") rfl
theorem isi_non_dict  : cIsi [.non, .ty "dict"] S Φ = Φ S (.bl false) := cIsi_of (a := "NoneType") rfl
theorem isi_bl_int {b : Bool} : cIsi [.bl b, .ty "int"] S Φ = Φ S (.bl true) := cIsi_of (a := "bool") rfl
theorem isi_bl_bool {b : Bool} : cIsi [.bl b, .ty "bool"] S Φ = Φ S (.bl true) := cIsi_of (a := "bool") rfl
theorem isi_bl_str {b : Bool} : cIsi [.bl b, .ty "str"] S Φ = Φ S (.bl false) := cIsi_of (a := "bool") rfl
theorem isi_bl_list {b : Bool} : cIsi [.bl b, .ty "list"] S Φ = Φ S (.bl false) := cIsi_of (a := "bool") rfl
theorem isi_bl_tuple {b : Bool} : cIsi [.bl b, .ty "tuple"] S Φ = Φ S (.bl false) := cIsi_of (a := "bool") rfl
theorem isi_bl_dict {b : Bool} : cIsi [.bl b, .ty "dict"] S Φ = Φ S (.bl false) := cIsi_of (a := "bool") rfl
theorem isi_int_int  : cIsi [.int i, .ty "int"] S Φ = Φ S (.bl true) := cIsi_of (a := "int") rfl
theorem isi_int_bool  : cIsi [.int i, .ty "bool"] S Φ = Φ S (.bl false) := cIsi_of (a := "int") rfl
theorem isi_int_str  : cIsi [.int i, .ty "str"] S Φ = Φ S (.bl false) := cIsi_of (a := "int") rfl
theorem isi_int_list  : cIsi [.int i, .ty "list"] S Φ = Φ S (.bl false) := cIsi_of (a := "int") rfl
theorem isi_int_tuple  : cIsi [.int i, .ty "tuple"] S Φ = Φ S (.bl false) := cIsi_of (a := "int") rfl
theorem isi_int_dict  : cIsi [.int i, .ty "dict"] S Φ = Φ S (.bl false) := cIsi_of (a := "int") rfl
theorem isi_str_int {z : Str} : cIsi [.str z, .ty "int"] S Φ = Φ S (.bl false) := cIsi_of (a := "str") rfl
theorem isi_str_bool {z : Str} : cIsi [.str z, .ty "bool"] S Φ = Φ S (.bl false) := cIsi_of (a := "str") rfl
theorem isi_str_str {z : Str} : cIsi [.str z, .ty "str"] S Φ = Φ S (.bl true) := cIsi_of (a := "str") rfl
theorem isi_str_list {z : Str} : cIsi [.str z, .ty "list"] S Φ = Φ S (.bl false) := cIsi_of (a := "str") rfl
theorem isi_str_tuple {z : Str} : cIsi [.str z, .ty "tuple"] S Φ = Φ S (.bl false) := cIsi_of (a := "str") rfl
theorem isi_str_dict {z : Str} : cIsi [.str z, .ty "dict"] S Φ = Φ S (.bl false) := cIsi_of (a := "str") rfl
theorem isi_lst_int  : cIsi [.lst ds, .ty "int"] S Φ = Φ S (.bl false) := cIsi_of (a := "list") rfl
theorem isi_lst_bool  : cIsi [.lst ds, .ty "bool"] S Φ = Φ S (.bl false) := cIsi_of (a := "list") rfl
theorem isi_lst_str  : cIsi [.lst ds, .ty "str"] S Φ = Φ S (.bl false) := cIsi_of (a := "list") rfl
theorem isi_lst_list  : cIsi [.lst ds, .ty "list"] S Φ = Φ S (.bl true) := cIsi_of (a := "list") rfl
theorem isi_lst_tuple  : cIsi [.lst ds, .ty "tuple"] S Φ = Φ S (.bl false) := cIsi_of (a := "list") rfl
theorem isi_lst_dict  : cIsi [.lst ds, .ty "dict"] S Φ = Φ S (.bl false) := cIsi_of (a := "list") rfl
theorem isi_sq_int  : cIsi [.sq ds, .ty "int"] S Φ = Φ S (.bl false) := cIsi_of (a := "list") rfl
theorem isi_sq_bool  : cIsi [.sq ds, .ty "bool"] S Φ = Φ S (.bl false) := cIsi_of (a := "list") rfl
theorem isi_sq_str  : cIsi [.sq ds, .ty "str"] S Φ = Φ S (.bl false) := cIsi_of (a := "list") rfl
theorem isi_sq_list  : cIsi [.sq ds, .ty "list"] S Φ = Φ S (.bl true) := cIsi_of (a := "list") rfl
theorem isi_sq_tuple  : cIsi [.sq ds, .ty "tuple"] S Φ = Φ S (.bl false) := cIsi_of (a := "list") rfl
theorem isi_sq_dict  : cIsi [.sq ds, .ty "dict"] S Φ = Φ S (.bl false) := cIsi_of (a := "list") rfl
theorem isi_tup_int  : cIsi [.tup ds, .ty "int"] S Φ = Φ S (.bl false) := cIsi_of (a := "tuple") rfl
theorem isi_tup_bool  : cIsi [.tup ds, .ty "bool"] S Φ = Φ S (.bl false) := cIsi_of (a := "tuple") rfl
theorem isi_tup_str  : cIsi [.tup ds, .ty "str"] S Φ = Φ S (.bl false) := cIsi_of (a := "tuple") rfl
theorem isi_tup_list  : cIsi [.tup ds, .ty "list"] S Φ = Φ S (.bl false) := cIsi_of (a := "tuple") rfl
theorem isi_tup_tuple  : cIsi [.tup ds, .ty "tuple"] S Φ = Φ S (.bl true) := cIsi_of (a := "tuple") rfl
theorem isi_tup_dict  : cIsi [.tup ds, .ty "dict"] S Φ = Φ S (.bl false) := cIsi_of (a := "tuple") rfl
theorem isi_dic_int {kv : List (Key × D)} : cIsi [.dic kv, .ty "int"] S Φ = Φ S (.bl false) := cIsi_of (a := "dict") rfl
theorem isi_dic_bool {kv : List (Key × D)} : cIsi [.dic kv, .ty "bool"] S Φ = Φ S (.bl false) := cIsi_of (a := "dict") rfl
theorem isi_dic_str {kv : List (Key × D)} : cIsi [.dic kv, .ty "str"] S Φ = Φ S (.bl false) := cIsi_of (a := "dict") rfl
theorem isi_dic_list {kv : List (Key × D)} : cIsi [.dic kv, .ty "list"] S Φ = Φ S (.bl false) := cIsi_of (a := "dict") rfl
theorem isi_dic_tuple {kv : List (Key × D)} : cIsi [.dic kv, .ty "tuple"] S Φ = Φ S (.bl false) := cIsi_of (a := "dict") rfl
theorem isi_dic_dict {kv : List (Key × D)} : cIsi [.dic kv, .ty "dict"] S Φ = Φ S (.bl true) := cIsi_of (a := "dict") rfl
theorem at_0 {α : Type} {a : α} {l : List α} : atI (a :: l) 0 = some a := by
  unfold atI ixN
  rw [if_pos (by decide), if_pos (by rw [List.length_cons]; omega)]
  rfl
theorem at_nat {α : Type} {l : List α} {n : Nat} : atI l (n : Int) = l[n]? := by
  unfold atI ixN
  rw [if_pos (by omega)]
  by_cases h : n < l.length
  · rw [if_pos (by omega)]; rfl
  · rw [if_neg (by omega), List.getElem?_eq_none (by omega)] <;> rfl
theorem dIx_p {p : D → Prop} (h0 : 0 ≤ i) (h1 : i < ds.length) (hp : ∀ d ∈ ds, p d) (k : ∀ d, p d → Φ S d) : dIx (.lst ds) (.int i) S Φ := by
  rw [dIx_l]
  obtain ⟨x, e, m⟩ := ix_all h0 h1
  exact ⟨x, e, k x (hp x m)⟩
end
theorem strOk_lit {s : String} : PyData.strOk (Str.ofString s) = true := by
  unfold PyData.strOk
  rw [Str.ofString_eq_toList, List.all_toArray, List.all_eq_true]
  intro x hx
  obtain ⟨c, _, rfl⟩ := List.mem_map.mp hx
  have h : UInt32.isValidChar c.val := c.valid
  simp only [UInt32.isValidChar, Nat.isValidChar] at h
  rw [decide_eq_true_eq]
  show c.val.toNat < _
  omega
theorem strOk_app {a b : Str} (h : PyData.strOk a = true) (h2 : PyData.strOk b = true) : PyData.strOk (a ++ b) = true := by
  unfold PyData.strOk at h h2 ⊢
  show (a.cps ++ b.cps).all _ = true
  rw [Array.all_append, h, h2]
  rfl
theorem strOk_from : ∀ {ts : List Str} {k : Nat} {acc : Str}, PyData.strOk acc = true → (∀ t ∈ ts, PyData.strOk t = true) → PyData.strOk (textFrom k acc ts) = true
  | [], _, _, h, _ => h
  | t :: ts, k, acc, h, h2 => strOk_from (ts := ts) (k := k + 1) (acc := acc ++ (if k > 0 then ", " else "" : String) ++ t) (strOk_app (strOk_app h strOk_lit) (h2 t List.mem_cons_self)) fun u hu => h2 u (List.mem_cons_of_mem _ hu)
theorem strOk_listText {ts : List Str} (h : ∀ t ∈ ts, PyData.strOk t = true) : PyData.strOk (listText ts) = true := strOk_app (strOk_from strOk_lit h) strOk_lit
theorem len_app (a b : Str) : (a ++ b).length = a.length + b.length := strLen_append a b
theorem from_le {m : Nat} : ∀ {ts : List Str} {k : Nat} {acc : Str}, (∀ t ∈ ts, t.length ≤ m) → (textFrom k acc ts).length ≤ acc.length + ts.length * (m + 2)
  | [], _, acc, _ => by show acc.length ≤ _; omega
  | t :: ts, k, acc, h => by
    have ih := from_le (m := m) (ts := ts) (k := k + 1) (acc := acc ++ (if k > 0 then ", " else "" : String) ++ t) fun u hu => h u (List.mem_cons_of_mem _ hu)
    have h1 := h t List.mem_cons_self
    have e : (Str.ofString (if k > 0 then ", " else "")).length ≤ 2 := by
      split
      · rw [PySem.ofString_length]; decide
      · rw [PySem.ofString_length]; decide
    rw [len_app, len_app] at ih
    show (textFrom (k + 1) _ ts).length ≤ _
    rw [List.length_cons, Nat.succ_mul]
    omega
theorem listText_le {m : Nat} {ts : List Str} (h : ∀ t ∈ ts, t.length ≤ m) : (listText ts).length ≤ 2 + ts.length * (m + 2) := by
  unfold listText
  rw [len_app]
  have h1 := from_le (m := m) (k := 0) (acc := "[") h
  have e1 : (Str.ofString "[").length = 1 := by rw [PySem.ofString_length] <;> rfl
  have e2 : (Str.ofString "]").length = 1 := by rw [PySem.ofString_length] <;> rfl
  omega
/-- data of a depth and of a text within bounds -/
structure Fit (n m : Nat) (p : PyData) : Prop where
  can : p.canLay0 = true
  show_ : p.showable = true
  plain : p.hasDict = false
  deep : p.depth ≤ n
  text : PyData.strOk p.shown = true
  len : p.shown.length ≤ m
theorem Fit.mono {n m n' m' : Nat} {p : PyData} (h : Fit n m p) (a : n ≤ n') (b : m ≤ m') : Fit n' m' p := ⟨h.can, h.show_, h.plain, Nat.le_trans h.deep a, h.text, Nat.le_trans h.len b⟩
theorem shownAll_mem {t : Str} : ∀ {ps : List PyData}, t ∈ PyData.shownAll ps → ∃ p ∈ ps, p.shown = t
  | [], h => by rw [PyData.shownAll] at h; cases h
  | p :: ps, h => by
    rw [PyData.shownAll] at h
    rcases List.mem_cons.mp h with e | h
    · exact ⟨p, List.mem_cons_self, e.symm⟩
    · obtain ⟨q, hq, e⟩ := shownAll_mem h
      exact ⟨q, List.mem_cons_of_mem _ hq, e⟩
theorem shownAll_len : ∀ ps : List PyData, (PyData.shownAll ps).length = ps.length
  | [] => by rw [PyData.shownAll] <;> rfl
  | p :: ps => by rw [PyData.shownAll, List.length_cons, List.length_cons, shownAll_len ps]
theorem fits_all {n m : Nat} : ∀ {ps : List PyData}, (∀ p ∈ ps, Fit n m p) → PyData.canLayAll0 ps = true ∧ PyData.showableAll ps = true ∧ PyData.hasDictAll ps = false ∧ PyData.depthAll ps ≤ n
  | [], _ => by simp [PyData.canLayAll0, PyData.showableAll, PyData.hasDictAll, PyData.depthAll]
  | p :: ps, h => by
    obtain ⟨a, b, c, d⟩ := fits_all (n := n) (m := m) (ps := ps) fun q hq => h q (List.mem_cons_of_mem _ hq)
    have f := h p List.mem_cons_self
    rw [PyData.canLayAll0, PyData.showableAll, PyData.hasDictAll, PyData.depthAll, f.can, f.show_, f.plain, a, b, c]
    exact ⟨rfl, rfl, rfl, Nat.max_le.mpr ⟨f.deep, d⟩⟩
theorem fit_list {n m l : Nat} {ps : List PyData} (h : ∀ p ∈ ps, Fit n m p) (hl : ps.length ≤ l) : Fit (n + 1) (2 + l * (m + 2)) (.list ps) := by
  obtain ⟨a, b, c, d⟩ := fits_all h
  refine ⟨by rw [PyData.canLay0]; exact a, by rw [PyData.showable]; exact b, by rw [PyData.hasDict]; exact c, by rw [PyData.depth]; omega, ?_, ?_⟩
  · rw [PyData.shown]
    exact strOk_listText fun t ht => by
      obtain ⟨p, hp, rfl⟩ := shownAll_mem ht
      exact (h p hp).text
  · rw [PyData.shown]
    have := listText_le (m := m) (ts := PyData.shownAll ps) fun t ht => by
      obtain ⟨p, hp, rfl⟩ := shownAll_mem ht
      exact (h p hp).len
    rw [shownAll_len] at this
    have h2 : ps.length * (m + 2) ≤ l * (m + 2) := Nat.mul_le_mul_right _ hl
    omega
theorem fit_int {i : Int} {k : Nat} (h : i.natAbs < 10 ^ k) (h0 : 0 < k := by decide) (hk : k ≤ 500 := by decide) : Fit 0 (k + 1) (.int i) := by
  have h1 : i.natAbs.log2 < 1920 := by
    refine PySem.Flt.log2_lt_of (by decide : 0 < 1920) (Nat.lt_of_lt_of_le h (Nat.le_trans (Nat.pow_le_pow_right (by decide) hk) (by decide +kernel)))
  refine ⟨by rw [PyData.canLay0], by rw [PyData.showable, decide_eq_true h1], by rw [PyData.hasDict], by rw [PyData.depth] <;> omega, by rw [PyData.shown]; exact strOk_lit, ?_⟩
  rw [PyData.shown, PySem.ofString_length]
  exact int_text_length_le10 h0 h
theorem Fit.shw {n m : Nat} {p : PyData} (h : Fit n m p) (hn : n ≤ 60 := by decide) (hm : m ≤ sizeLine := by decide) : Shw p := ⟨h.show_, h.plain, Nat.le_trans h.deep hn, Nat.le_trans h.len hm⟩
theorem Fit.shaped {n m : Nat} {p : PyData} (h : Fit n m p) (hn : n ≤ 64 := by decide) : SeqAt.shaped p = true := by
  unfold SeqAt.shaped
  rw [h.can, Bool.true_and, decide_eq_true_eq]
  exact Nat.le_trans h.deep hn
theorem eq_same {S : Sto} {Φ : KD} {d e : D} {n m : Nat} {p : PyData} (r : PyR S d p) (r2 : PyR S e p) (f : Fit n m p) (h : Φ S (.bl true)) (hn : n ≤ 64 := by decide) : dEq d e S Φ := ⟨p, p, r, r2, f.shaped hn, f.shaped hn, by rw [SeqAt.eqv_refl p f.can]; exact h⟩
theorem pyra_map {α : Type} {S : Sto} {f : α → D} {g : α → PyData} (h : ∀ x, PyR S (f x) (g x)) : ∀ xs : List α, PyRA S (xs.map f) (xs.map g)
  | [] => .nil
  | x :: xs => .cons (h x) (pyra_map h xs)
end DL
namespace DL
open PySem PySem.Spec PyProof.Rows L2
def forP (src : Src) (G : TGd) (B : TSd) : TSd := fun D Γ S1 => ∃ (P : Nat → Gam → Sto → Prop) (n : Nat), P 0 Γ S1 ∧
  (∀ i Γ' S', i ≤ n → P i Γ' S' → ∃ ds, src S' = some ds ∧ ds.length = n) ∧
  (∀ i Γ' S' ds d, P i Γ' S' → src S' = some ds → ds[i]? = some d → G d Γ' S' fun Γ2 S2 => B { D with nx := P (i + 1), ct := P (i + 1), bk := D.nx } Γ2 S2) ∧
  (∀ Γ' S', P n Γ' S' → D.nx Γ' S')
/-- marks: where ways meet again -/
def dJ (T : TD) : TD := T
def sJ (T : TSd) : TSd := T
theorem joinD {T : TD} {Γ : Gam} {S : Sto} {Φ : KD} {Ψ : KX} (J : KD) (h : ∀ S' d, J S' d → Φ S' d) (k : ∀ Φ' : KD, (∀ S' d, J S' d → Φ' S' d) → T Γ S Φ' Ψ) : dJ T Γ S Φ Ψ := k Φ h
theorem joinS {T : TSd} {Γ : Gam} {S : Sto} {E : EdD} (J : Gam → Sto → Prop) (h : ∀ Γ' S', J Γ' S' → E.nx Γ' S') (k : ∀ N : Gam → Sto → Prop, (∀ Γ' S', J Γ' S' → N Γ' S') → T { E with nx := N } Γ S) : sJ T E Γ S := k E.nx h
theorem dJ_e {T : TD} {Γ : Gam} {S : Sto} {Φ : KD} {Ψ : KX} : dJ T Γ S Φ Ψ = T Γ S Φ Ψ := rfl
theorem sJ_e {T : TSd} {Γ : Gam} {S : Sto} {E : EdD} : sJ T E Γ S = T E Γ S := rfl
def lcP (src : Src) (G : TGd) (C : TB) (Te : TD) (vs : List Nat) (Fin : List D → Sto → KD → Prop) (Γ : Gam) (S1 : Sto) (Φ : KD) : Prop := ∃ (P : Nat → List D → Sto → Prop) (n : Nat), n ≤ sizeLine ∧ P 0 [] S1 ∧
  (∀ i acc S', i ≤ n → P i acc S' → ∃ ds, src S' = some ds ∧ ds.length = n) ∧
  (∀ i acc S' ds d, P i acc S' → src S' = some ds → ds[i]? = some d → G d (gwipe Γ vs) S' fun Γ2 S2 => C Γ2 S2 (fun S3 k => if k = true then Te Γ2 S3 (fun S4 y => P (i + 1) (acc ++ [y]) S4) (fun _ _ => False) else P (i + 1) acc S3) (fun _ _ => False)) ∧
  (∀ acc S', P n acc S' → Fin acc S' Φ)
section
variable {Γ : Gam} {S : Sto} {Φ : KD} {Ψ : KX}
theorem sNext_e {E : EdD} : sNext E Γ S = (E.nx Γ S) := rfl
theorem sSeq_e {E : EdD} {T U : TSd} : sSeq T U E Γ S = (T { E with nx := U E } Γ S) := rfl
theorem sBrk_e {E : EdD} : sBrk E Γ S = (E.bk Γ S) := rfl
theorem sCnt_e {E : EdD} : sCnt E Γ S = (E.ct Γ S) := rfl
theorem sDrop_e {E : EdD} {T : TD} : sDrop T E Γ S = (T Γ S (fun S1 _ => E.nx Γ S1) E.er) := rfl
theorem sRet_e {E : EdD} {T : TD} : sRet T E Γ S = (T Γ S E.rt E.er) := rfl
theorem sRetN_e {E : EdD} : sRetN E Γ S = (E.rt S .non) := rfl
theorem sIf_e {E : EdD} {C : TB} {T U : TSd} : sIf C T U E Γ S = (C Γ S (fun S1 k => if k = true then T E Γ S1 else U E Γ S1) E.er) := rfl
theorem sAsg_e {E : EdD} {T : TD} {G : TGd} : sAsg T G E Γ S = (T Γ S (fun S1 d => G d Γ S1 E.nx) E.er) := rfl
theorem sPar_e {E : EdD} {i j : Nat} {T : TL} : sPar i j T E Γ S = (T Γ S (fun S1 ds => ∃ x y, ds = [x, y] ∧ E.nx ((Γ.set i (some x)).set j (some y)) S1) E.er) := rfl
theorem sPar3_e {E : EdD} {i j l : Nat} {T : TL} : sPar3 i j l T E Γ S = (T Γ S (fun S1 ds => ∃ x y z, ds = [x, y, z] ∧ E.nx (((Γ.set i (some x)).set j (some y)).set l (some z)) S1) E.er) := rfl
theorem sAug_e {E : EdD} {i : Nat} {T : TD} {f : D → D → Sto → KD → Prop} : sAug i T f E Γ S = (∃ d, Γ[i]? = some (some d) ∧ T Γ S (fun S1 y => f d y S1 fun S2 z => E.nx (Γ.set i (some z)) S2) E.er) := rfl
theorem sRaise_e {E : EdD} {C : Addr} : sRaise C E Γ S = (E.er S ⟨C, []⟩) := rfl
theorem nmG_e {i : Nat} {d : D} {P : Gam → Sto → Prop} : nmG i d Γ S P = (P (Γ.set i (some d)) S) := rfl
theorem tupG_e {n : Nat} {T : TGs'} {d : D} {P : Gam → Sto → Prop} : tupG n T d Γ S P = (∃ ds, d = .tup ds ∧ ds.length = n ∧ T ds Γ S P) := rfl
theorem gsNil_e {ds : List D} {P : Gam → Sto → Prop} : gsNil ds Γ S P = (ds = [] ∧ P Γ S) := rfl
theorem gsCons_e {ds : List D} {T : TGd} {U : TGs'} {P : Gam → Sto → Prop} : gsCons T U ds Γ S P = (∃ d r, ds = d :: r ∧ T d Γ S fun Γ' S' => U r Γ' S' P) := rfl
theorem subG_e {f : D → D → D → Sto → (Sto → Prop) → Prop} {To Ti : TD} {d : D} {P : Gam → Sto → Prop} : subG f To Ti d Γ S P = (To Γ S (fun S1 o => Ti Γ S1 (fun S2 i => f o i d S2 fun S3 => P Γ S3) fun _ _ => False) fun _ _ => False) := rfl
theorem dVar_e {i : Nat} : dVar i Γ S Φ Ψ = (∃ d, Γ[i]? = some (some d) ∧ Φ S d) := rfl
theorem dC_e {d : D} : dC d Γ S Φ Ψ = (Φ S d) := rfl
theorem dOp_e {f : D → D → Sto → KD → Prop} {A B : TD} : dOp f A B Γ S Φ Ψ = (A Γ S (fun S1 x => B Γ S1 (fun S2 y => f x y S2 Φ) Ψ) Ψ) := rfl
theorem dUn_e {f : D → Sto → KD → Prop} {A : TD} : dUn f A Γ S Φ Ψ = (A Γ S (fun S1 d => f d S1 Φ) Ψ) := rfl
theorem dChain_e {f g : D → D → Sto → KD → Prop} {A B C : TD} : dChain f g A B C Γ S Φ Ψ = (A Γ S (fun S1 x => B Γ S1 (fun S2 y => f x y S2 fun S3 z => ∃ k, z = .bl k ∧ (if k = true then C Γ S3 (fun S4 u => g y u S4 Φ) Ψ else Φ S3 (.bl false))) Ψ) Ψ) := rfl
theorem bOf_e {A : TD} {Φ : Sto → Bool → Prop} : bOf A Γ S Φ Ψ = (A Γ S (fun S1 d => ∃ k, d = .bl k ∧ Φ S1 k) Ψ) := rfl
theorem bAnd_e {A B : TB} {Φ : Sto → Bool → Prop} : bAnd A B Γ S Φ Ψ = (A Γ S (fun S1 k => if k = true then B Γ S1 Φ Ψ else Φ S1 false) Ψ) := rfl
theorem bOr_e {A B : TB} {Φ : Sto → Bool → Prop} : bOr A B Γ S Φ Ψ = (A Γ S (fun S1 k => if k = true then Φ S1 true else B Γ S1 Φ Ψ) Ψ) := rfl
theorem bNot_e {A : TB} {Φ : Sto → Bool → Prop} : bNot A Γ S Φ Ψ = (A Γ S (fun S1 k => Φ S1 (!k)) Ψ) := rfl
theorem bYes_e {Φ : Sto → Bool → Prop} : bYes Γ S Φ Ψ = (Φ S true) := rfl
theorem dAnd_e {A B : TD} : dAnd A B Γ S Φ Ψ = (A Γ S (fun S1 x => ∃ k, x = .bl k ∧ if k = true then B Γ S1 Φ Ψ else Φ S1 (.bl false)) Ψ) := rfl
theorem dOr_e {A B : TD} : dOr A B Γ S Φ Ψ = (A Γ S (fun S1 x => ∃ k, x = .bl k ∧ if k = true then Φ S1 (.bl true) else B Γ S1 Φ Ψ) Ψ) := rfl
theorem dNot_e {A : TD} : dNot A Γ S Φ Ψ = (A Γ S (fun S1 x => ∃ k, x = .bl k ∧ Φ S1 (.bl (!k))) Ψ) := rfl
theorem dIf_e {C : TB} {A B : TD} : dIf C A B Γ S Φ Ψ = (C Γ S (fun S1 k => if k = true then A Γ S1 Φ Ψ else B Γ S1 Φ Ψ) Ψ) := rfl
theorem lNil_e {Φ : Sto → List D → Prop} : lNil Γ S Φ Ψ = (Φ S []) := rfl
theorem lCons_e {T : TD} {U : TL} {Φ : Sto → List D → Prop} : lCons T U Γ S Φ Ψ = (T Γ S (fun S1 x => U Γ S1 (fun S2 xs => Φ S2 (x :: xs)) Ψ) Ψ) := rfl
theorem dLst_e {T : TL} : dLst T Γ S Φ Ψ = (T Γ S (fun S1 ds => ds.length ≤ sizeLine ∧ Φ S1 (.lst ds)) Ψ) := rfl
theorem dLstO_e {T : TL} : dLstO T Γ S Φ Ψ = (T Γ S (fun S1 ds => ds.length ≤ sizeLine ∧ Φ (S1 ++ [.lst ds]) (.own S1.length)) Ψ) := rfl
theorem dTup_e {T : TL} : dTup T Γ S Φ Ψ = (T Γ S (fun S1 ds => ds.length ≤ sizeLine ∧ Φ S1 (.tup ds)) Ψ) := rfl
theorem dCB_e {f : List D → Sto → KD → Prop} {T : TL} : dCB f T Γ S Φ Ψ = (T Γ S (fun S1 ds => f ds S1 Φ) Ψ) := rfl
theorem dCall_e {sp : DSpec} {T : TL} : dCall sp T Γ S Φ Ψ = (T Γ S (fun S1 ds => sp ds S1 Φ Ψ) Ψ) := rfl
theorem dCallK_e {n m : Nat} {sp : DSpec} {g : List D → List D → List D} {T U : TL} : dCallK n m sp g T U Γ S Φ Ψ = (T Γ S (fun S1 ds => U Γ S1 (fun S2 es => ds.length = n ∧ es.length = m ∧ sp (g ds es) S2 Φ Ψ) Ψ) Ψ) := rfl
theorem oNone_e {Φ : Sto → Option Int → Prop} : oNone Γ S Φ Ψ = (Φ S none) := rfl
theorem oSome_e {T : TD} {Φ : Sto → Option Int → Prop} : oSome T Γ S Φ Ψ = (T Γ S (fun S1 d => ∃ i, d = .int i ∧ Φ S1 (some i)) Ψ) := rfl
theorem dSl_e {f : D → Option Int → Option Int → Sto → KD → Prop} {T : TD} {A B : TOd} : dSl f T A B Γ S Φ Ψ = (T Γ S (fun S1 d => A Γ S1 (fun S2 lo => B Γ S2 (fun S3 hi => f d lo hi S3 Φ) Ψ) Ψ) Ψ) := rfl
theorem dBM_e {f : D → List D → Sto → KD → Prop} {T : TD} {U : TL} : dBM f T U Γ S Φ Ψ = (T Γ S (fun S1 d => isLst S1 d ∧ U Γ S1 (fun S2 ds => f d ds S2 Φ) Ψ) Ψ) := rfl
theorem dBM0_e {f : D → List D → Sto → KD → Prop} {T : TD} : dBM0 f T Γ S Φ Ψ = (T Γ S (fun S1 d => isLst S1 d ∧ f d [] S1 Φ) Ψ) := rfl
theorem dFz_e {T : TD} : dFz T Γ S Φ Ψ = (T Γ S (fun S1 d => fzD d S1 Φ) Ψ) := rfl
theorem dFz2_e {T : TD} : dFz2 T Γ S Φ Ψ = (T Γ S (fun S1 d => fzD2 d S1 Φ) Ψ) := rfl
theorem iSeq_e {T : TD} {Φ : Sto → Src → Prop} : iSeq T Γ S Φ Ψ = (T Γ S (fun S1 d => (∃ ds, asQ S1 d = some ds) ∧ Φ S1 (fun S' => asQ S' d)) Ψ) := rfl
theorem iTupD_e {T : TD} {Φ : Sto → Src → Prop} : iTupD T Γ S Φ Ψ = (T Γ S (fun S1 d => ∃ ds, d = .tup ds ∧ Φ S1 (fun _ => some ds)) Ψ) := rfl
theorem iRg1_e {T : TL} {Φ : Sto → Src → Prop} : iRg1 T Γ S Φ Ψ = (T Γ S (fun S1 ds => ∃ j, ds = [.int j] ∧ -(2 ^ 62) ≤ j ∧ j < 2 ^ 62 ∧ Φ S1 (fun _ => some (rngD 0 j.toNat))) Ψ) := rfl
theorem iRg2_e {T : TL} {Φ : Sto → Src → Prop} : iRg2 T Γ S Φ Ψ = (T Γ S (fun S1 ds => ∃ i j, ds = [.int i, .int j] ∧ (-(2 ^ 62) ≤ i ∧ i < 2 ^ 62 ∧ -(2 ^ 62) ≤ j ∧ j < 2 ^ 62) ∧ Φ S1 (fun _ => some (rngD i (j - i).toNat))) Ψ) := rfl
theorem iZipD_e {T : TL} {Φ : Sto → Src → Prop} : iZipD T Γ S Φ Ψ = (T Γ S (fun S1 ds => ∃ d e, ds = [d, e] ∧ (∃ xs, asQ S1 d = some xs) ∧ (∃ ys, asQ S1 e = some ys) ∧ Φ S1 (fun S' => (asQ S' d).bind fun xs => (asQ S' e).map fun ys => zipD xs ys)) Ψ) := rfl
theorem iEnumD_e {T : TL} {Φ : Sto → Src → Prop} : iEnumD T Γ S Φ Ψ = (T Γ S (fun S1 ds => ∃ d, ds = [d] ∧ (∃ xs, asQ S1 d = some xs) ∧ Φ S1 (fun S' => (asQ S' d).map enumD)) Ψ) := rfl
theorem sFor_e {E : EdD} {I : TId} {G : TGd} {B : TSd} : sFor I G B E Γ S = (I Γ S (fun S1 src => forP src G B E Γ S1) E.er) := rfl
theorem dLc_e {I : TId} {G : TGd} {C : TB} {T : TD} {vs : List Nat} {Fin : List D → Sto → KD → Prop} : dLc I G C T vs Fin Γ S Φ Ψ = (I Γ S (fun S1 src => lcP src G C T vs Fin Γ S1 Φ) Ψ) := rfl
theorem finF_e {acc : List D} : finF acc S Φ = (Φ S (.lst acc)) := rfl
theorem finO_e {acc : List D} : finO acc S Φ = (Φ (S ++ [.lst acc]) (.own S.length)) := rfl
theorem fzD_l {ds : List D} : fzD (.lst ds) S Φ = (Φ S (.lst ds)) := rfl
theorem fzD_i {i : Int} : fzD (.int i) S Φ = (Φ S (.int i)) := rfl
theorem fzD_o {h : Nat} : fzD (.own h) S Φ = (∃ ds, S[h]? = some (.lst ds) ∧ Φ (S.set h .gone) (.lst ds)) := rfl
theorem fzD2_o {h : Nat} : fzD2 (.own h) S Φ = (∃ ds, S[h]? = some (.lst ds) ∧ fzLD ds (S.set h .gone) fun S' ds' => Φ S' (.lst ds')) := rfl
theorem dSetO_e {h : Nat} {k : Int} {v : D} {P : Sto → Prop} : dSetO (.own h) (.int k) v S P = (∃ ds, S[h]? = some (.lst ds) ∧ ∃ j, ixN ds.length k = some j ∧ P (S.set h (.lst (ds.set j v)))) := propext ⟨fun ⟨a, b, c, d⟩ => ⟨a, c, b, d⟩, fun ⟨a, c, b, d⟩ => ⟨a, b, c, d⟩⟩
theorem mAppend_e {h : Nat} {y : D} : mAppend (.own h) [y] S Φ = (∃ xs, S[h]? = some (.lst xs) ∧ xs.length < sizeLine ∧ Φ (S.set h (.lst (xs ++ [y]))) .non) := rfl
theorem mClear_e {h : Nat} : mClear (.own h) [] S Φ = (∃ xs, S[h]? = some (.lst xs) ∧ Φ (S.set h (.lst [])) .non) := rfl
theorem mReverse_e {h : Nat} : mReverse (.own h) [] S Φ = (∃ xs, S[h]? = some (.lst xs) ∧ Φ (S.set h (.lst xs.reverse)) .non) := rfl
end
section
variable {Γ : Gam} {S : Sto} {Φ : KD} {G : TGd} {B : TSd} {E : EdD} {C : TB} {Te : TD} {vs : List Nat} {Fin : List D → Sto → KD → Prop}
theorem for_l {ds : List D} (P : Nat → Gam → Sto → Prop) (h0 : P 0 Γ S) (hs : ∀ i Γ' S' (hi : i < ds.length), P i Γ' S' → G ds[i] Γ' S' fun Γ2 S2 => B { E with nx := P (i + 1), ct := P (i + 1), bk := E.nx } Γ2 S2) (hd : ∀ Γ' S', P ds.length Γ' S' → E.nx Γ' S') : forP (fun _ => some ds) G B E Γ S :=
  ⟨P, ds.length, h0, fun _ _ _ _ _ => ⟨ds, rfl, rfl⟩, fun i Γ' S' es d hp e hd => by
    cases e
    obtain ⟨hi, rfl⟩ := List.getElem?_eq_some_iff.mp hd
    exact hs i Γ' S' hi hp, hd⟩
theorem for_s {src : Src} {ds : List D} (P : Nat → Gam → Sto → Prop) (h0 : P 0 Γ S) (hl : ∀ i Γ' S', P i Γ' S' → src S' = some ds) (hs : ∀ i Γ' S' (hi : i < ds.length), P i Γ' S' → G ds[i] Γ' S' fun Γ2 S2 => B { E with nx := P (i + 1), ct := P (i + 1), bk := E.nx } Γ2 S2) (hd : ∀ Γ' S', P ds.length Γ' S' → E.nx Γ' S') : forP src G B E Γ S :=
  ⟨P, ds.length, h0, fun i Γ' S' _ hp => ⟨ds, hl i Γ' S' hp, rfl⟩, fun i Γ' S' es d hp e hd => by
    rw [hl i Γ' S' hp] at e
    cases e
    obtain ⟨hi, rfl⟩ := List.getElem?_eq_some_iff.mp hd
    exact hs i Γ' S' hi hp, hd⟩
theorem rng_len (lo : Int) (n : Nat) : (rngD lo n).length = n := by simp [rngD]
theorem rng_get {lo : Int} {n i : Nat} {d : D} (h : (rngD lo n)[i]? = some d) : i < n ∧ d = .int (lo + i) := by
  obtain ⟨hi, e⟩ := List.getElem?_eq_some_iff.mp h
  rw [rng_len] at hi
  refine ⟨hi, ?_⟩
  rw [← e]
  simp [rngD]
theorem for_r {lo : Int} {n : Nat} (P : Nat → Gam → Sto → Prop) (h0 : P 0 Γ S) (hs : ∀ (i : Nat) Γ' S', i < n → P i Γ' S' → G (.int (lo + (i : Int))) Γ' S' fun Γ2 S2 => B { E with nx := P (i + 1), ct := P (i + 1), bk := E.nx } Γ2 S2) (hd : ∀ Γ' S', P n Γ' S' → E.nx Γ' S') : forP (fun _ => some (rngD lo n)) G B E Γ S :=
  ⟨P, n, h0, fun _ _ _ _ _ => ⟨_, rfl, rng_len _ _⟩, fun i Γ' S' es d hp e hd => by
    cases e
    obtain ⟨hi, rfl⟩ := rng_get hd
    exact hs i Γ' S' hi hp, hd⟩
theorem for_r0 {n : Nat} (P : Nat → Gam → Sto → Prop) (h0 : P 0 Γ S) (hs : ∀ (i : Nat) Γ' S', i < n → P i Γ' S' → G (.int (i : Int)) Γ' S' fun Γ2 S2 => B { E with nx := P (i + 1), ct := P (i + 1), bk := E.nx } Γ2 S2) (hd : ∀ Γ' S', P n Γ' S' → E.nx Γ' S') : forP (fun _ => some (rngD 0 n)) G B E Γ S :=
  for_r P h0 (fun i Γ' S' hi hp => by rw [Int.zero_add]; exact hs i Γ' S' hi hp) hd
theorem lc_l {ds : List D} (P : Nat → List D → Sto → Prop) (hl : ds.length ≤ sizeLine) (h0 : P 0 [] S) (hs : ∀ i acc S' (hi : i < ds.length), P i acc S' → G ds[i] (gwipe Γ vs) S' fun Γ2 S2 => C Γ2 S2 (fun S3 k => if k = true then Te Γ2 S3 (fun S4 y => P (i + 1) (acc ++ [y]) S4) (fun _ _ => False) else P (i + 1) acc S3) (fun _ _ => False))
    (hd : ∀ acc S', P ds.length acc S' → Fin acc S' Φ) : lcP (fun _ => some ds) G C Te vs Fin Γ S Φ :=
  ⟨P, ds.length, hl, h0, fun _ _ _ _ _ => ⟨ds, rfl, rfl⟩, fun i acc S' es d hp e hd => by
    cases e
    obtain ⟨hi, rfl⟩ := List.getElem?_eq_some_iff.mp hd
    exact hs i acc S' hi hp, hd⟩
theorem lc_r0 {n : Nat} (P : Nat → List D → Sto → Prop) (hl : n ≤ sizeLine) (h0 : P 0 [] S) (hs : ∀ (i : Nat) acc S', i < n → P i acc S' → G (.int (i : Int)) (gwipe Γ vs) S' fun Γ2 S2 => C Γ2 S2 (fun S3 k => if k = true then Te Γ2 S3 (fun S4 y => P (i + 1) (acc ++ [y]) S4) (fun _ _ => False) else P (i + 1) acc S3) (fun _ _ => False))
    (hd : ∀ acc S', P n acc S' → Fin acc S' Φ) : lcP (fun _ => some (rngD 0 n)) G C Te vs Fin Γ S Φ :=
  ⟨P, n, hl, h0, fun _ _ _ _ _ => ⟨_, rfl, rng_len _ _⟩, fun i acc S' es d hp e hd => by
    cases e
    obtain ⟨hi, rfl⟩ := rng_get hd
    rw [Int.zero_add]
    exact hs i acc S' hi hp, hd⟩
theorem dIx_o' {h : Nat} {i : Int} {S : Sto} {Φ : KD} : dIx (.own h) (.int i) S Φ = (∃ ds, S[h]? = some (.lst ds) ∧ ∃ d, atI ds i = some d ∧ Φ S d) := by
  rw [dIx_o]
  exact propext ⟨fun ⟨a, b, c, d⟩ => ⟨a, c, b, d⟩, fun ⟨a, c, b, d⟩ => ⟨a, b, c, d⟩⟩
theorem at_1 {α : Type} {a b : α} {l : List α} : atI (a :: b :: l) 1 = some b := at_nat (n := 1)
theorem at_2 {α : Type} {a b c : α} {l : List α} : atI (a :: b :: c :: l) 2 = some c := at_nat (n := 2)
theorem at_3 {α : Type} {a b c d : α} {l : List α} : atI (a :: b :: c :: d :: l) 3 = some d := at_nat (n := 3)
theorem at_4 {α : Type} {a b c d e : α} {l : List α} : atI (a :: b :: c :: d :: e :: l) 4 = some e := at_nat (n := 4)
theorem Fs.last {S S' : Sto} {h n : Nat} {x : Cell} (f : Fs h n (S ++ [x]) S') (hl : h < S.length) : S'[S.length]? = some x ∧ ∀ y, Fs h n (S ++ [y]) (S'.set S.length y) := by
  obtain ⟨c, q, rfl⟩ := f
  rw [set_app hl]
  have e : S.length = (S.set h c).length := by rw [List.length_set]
  refine ⟨by rw [e]; exact get_at, fun y => ⟨c, q, ?_⟩⟩
  rw [set_app hl]
  conv => lhs; rw [e]
  exact set_at
theorem Fs.cell {S S' : Sto} {h n : Nat} (f : Fs h n S S') (x : Cell) (hl : h < S.length) : Fs h n (S ++ [x]) (S' ++ [x]) := by
  obtain ⟨c, q, rfl⟩ := f
  exact ⟨c, q, (set_app hl).symm⟩
theorem isLst_at {S : Sto} {h : Nat} {ds : List D} (e : S[h]? = some (.lst ds)) : isLst S (.own h) := ⟨ds, asL_at' e⟩
theorem isLst_l {S : Sto} {ds : List D} : isLst S (.lst ds) = True := propext ⟨fun _ => trivial, fun _ => ⟨ds, rfl⟩⟩
theorem ix_nat {n i : Nat} (h : i < n) : ixN n (i : Int) = some i := by
  unfold ixN
  rw [if_pos (by omega), if_pos (by omega)]
  rfl
theorem ix30 : ixN 3 0 = some 0 := ix_nat (i := 0) (by decide)
theorem ix31 : ixN 3 1 = some 1 := ix_nat (i := 1) (by decide)
theorem ix32 : ixN 3 2 = some 2 := ix_nat (i := 2) (by decide)
theorem cpw {i j : Int} (h0 : 0 ≤ j) (h1 : j ≤ 1000) (h : i.natAbs < 2 ^ 250) : CPowW i j := ⟨h0, h1, Nat.lt_of_lt_of_le h (Nat.pow_le_pow_right (by decide) (by decide))⟩
theorem cdw {i j : Int} (h0 : 0 < j) (h : j.natAbs < 2 ^ 250) : CDivW i j :=
  ⟨h0, PySem.Flt.log2_lt_of (by decide) (Nat.lt_of_lt_of_le h (Nat.pow_le_pow_right (by decide) (by decide)))⟩
theorem cmr {i j : Int} (h0 : -(2 ^ 64) < j) (h : j < 2 ^ 64) : CMulA i j := .inl (.inr ⟨h0, h⟩)
theorem cml {i j : Int} (h0 : -(2 ^ 64) < i) (h : i < 2 ^ 64) : CMulA i j := .inl (.inl ⟨h0, h⟩)
theorem small {n : Nat} (h : n ≤ 1000000 := by decide) : n ≤ sizeLine := Nat.le_trans h (by decide)
theorem exAny {α : Type} {a : α} : (∃ x, some a = some x) = True := propext ⟨fun _ => trivial, fun _ => ⟨a, rfl⟩⟩
theorem rep_0 : List.replicate 0 (none : Option D) = [] := rfl
theorem rep_s {n : Nat} : List.replicate (n + 1) (none : Option D) = none :: List.replicate n none := rfl
/-- a comprehension that changes no cell: the item x gives g x -/
theorem lc_map {α : Type} (xs : List α) (f g : α → D) (hl : xs.length ≤ sizeLine) (hs : ∀ x ∈ xs, ∀ R : KD, R S (g x) → G (f x) (gwipe Γ vs) S fun Γ2 S2 => Te Γ2 S2 R (fun _ _ => False)) (hd : Fin (xs.map g) S Φ) : lcP (fun _ => some (xs.map f)) G bYes Te vs Fin Γ S Φ := by
  refine lc_l (fun i acc S' => S' = S ∧ acc = (xs.map g).take i) (by rw [List.length_map]; exact hl) ⟨rfl, by simp⟩ (fun i acc S' hi hp => ?_) fun acc S' hp => ?_
  · obtain ⟨rfl, rfl⟩ := hp
    have hi2 : i < xs.length := by rw [List.length_map] at hi; exact hi
    rw [List.getElem_map]
    refine hs _ (List.getElem_mem hi2) _ ⟨rfl, ?_⟩
    have hi3 : i < (xs.map g).length := by rw [List.length_map]; exact hi2
    rw [List.take_add_one, List.getElem?_eq_getElem hi3, List.getElem_map]
    rfl
  · obtain ⟨rfl, rfl⟩ := hp
    rw [List.length_map, List.take_of_length_le (by rw [List.length_map]; exact Nat.le_refl _)]
    exact hd
end
end DL
namespace DL
open PySem PySem.Spec PyProof.Rows L2
section
variable {S T : Sto} {Φ : KD} {i j : Int} {d e : D} {xs ys : List D}
theorem asL_cases (h : asL S d = some xs) : d = .lst xs ∨ ∃ n, d = .own n ∧ S[n]? = some (.lst xs) := by
  cases d with
  | lst ds => cases h; exact .inl rfl
  | own n =>
    have h : (match S[n]? with | some (.lst ds) => some ds | _ => none) = some xs := h
    split at h
    · cases h; exact .inr ⟨n, rfl, by assumption⟩
    · cases h
  | _ => cases h
theorem asL_app (h : asL S d = some xs) : asL (S ++ T) d = some xs := by
  rcases asL_cases h with rfl | ⟨n, rfl, e⟩
  · rfl
  · exact asL_at' (get_app e)
theorem asQ_L (h : asL S d = some xs) : asQ S d = some xs := by
  rcases asL_cases h with rfl | ⟨n, rfl, e⟩
  · rfl
  · exact asQ_at' e
theorem asS_L (h : asL S d = some xs) : asS S d = some xs := by
  rcases asL_cases h with rfl | ⟨n, rfl, e⟩
  · rfl
  · exact asQ_at' e
theorem tyOf_L (h : asL S d = some xs) : tyOf S d = some "list" := by
  rcases asL_cases h with rfl | ⟨n, rfl, e⟩
  · rfl
  · show (match S[n]? with | some (.lst _) => some "list" | _ => none) = some "list"
    rw [e]
theorem cLen_L (h : asL S d = some xs) : cLen [d] S Φ = Φ S (.int xs.length) := by
  rcases asL_cases h with rfl | ⟨n, rfl, e⟩
  · exact cLen_l
  · show (∃ ys, asS S (.own n) = some ys ∧ Φ S (.int ys.length)) = _
    rw [asS_L h]
    exact propext exAs
theorem cList_L (h : asL S d = some xs) : cList [d] S Φ = Φ S (.lst xs) := by
  show (∃ ys, asS S d = some ys ∧ Φ S (.lst ys)) = _
  rw [asS_L h]
  exact propext exAs
theorem dSlL_L {lo hi : Option Int} (h : asL S d = some xs) : dSlL d lo hi S Φ = Φ S (.lst (cutD xs lo hi)) := by
  show (∃ ds, asQ S d = some ds ∧ Φ S (.lst (cutD ds lo hi))) = _
  rw [asQ_L h]
  exact propext exAs
theorem dNe_i : dNe (.int i) (.int j) S Φ = Φ S (.bl (!(i == j))) := propext
  ⟨fun ⟨p, q, h1, h2, _, _, h⟩ => by cases h1; cases h2; simpa [PyData.eqv] using h, fun h => ⟨_, _, .int i, .int j, by simp [SeqAt.shaped, PyData.canLay0, PyData.depth], by simp [SeqAt.shaped, PyData.canLay0, PyData.depth], by simpa [PyData.eqv] using h⟩⟩
end
section
variable {Γ : Gam} {S : Sto} {Φ : KD} {G : TGd} {C : TB} {Te : TD} {vs : List Nat} {Fin : List D → Sto → KD → Prop} {src : Src}
theorem lc_s {ds : List D} (P : Nat → List D → Sto → Prop) (hl : ds.length ≤ sizeLine) (h0 : P 0 [] S) (hsrc : ∀ i acc S', P i acc S' → src S' = some ds) (hs : ∀ i acc S' (hi : i < ds.length), P i acc S' → G ds[i] (gwipe Γ vs) S' fun Γ2 S2 => C Γ2 S2 (fun S3 k => if k = true then Te Γ2 S3 (fun S4 y => P (i + 1) (acc ++ [y]) S4) (fun _ _ => False) else P (i + 1) acc S3) (fun _ _ => False))
    (hd : ∀ acc S', P ds.length acc S' → Fin acc S' Φ) : lcP src G C Te vs Fin Γ S Φ :=
  ⟨P, ds.length, hl, h0, fun i acc S' _ hp => ⟨ds, hsrc i acc S' hp, rfl⟩, fun i acc S' es d hp e hd => by
    rw [hsrc i acc S' hp] at e
    cases e
    obtain ⟨hi, rfl⟩ := List.getElem?_eq_some_iff.mp hd
    exact hs i acc S' hi hp, hd⟩
theorem lc_mapS {α : Type} (xs : List α) (f g : α → D) (hsrc : src S = some (xs.map f)) (hl : xs.length ≤ sizeLine) (hs : ∀ x ∈ xs, ∀ R : KD, R S (g x) → G (f x) (gwipe Γ vs) S fun Γ2 S2 => Te Γ2 S2 R (fun _ _ => False)) (hd : Fin (xs.map g) S Φ) : lcP src G bYes Te vs Fin Γ S Φ := by
  refine lc_s (ds := xs.map f) (fun i acc S' => S' = S ∧ acc = (xs.map g).take i) (by rw [List.length_map]; exact hl) ⟨rfl, by simp⟩ (fun i acc S' hp => by rw [hp.1]; exact hsrc) (fun i acc S' hi hp => ?_) fun acc S' hp => ?_
  · obtain ⟨rfl, rfl⟩ := hp
    have hi2 : i < xs.length := by rw [List.length_map] at hi; exact hi
    rw [List.getElem_map]
    refine hs _ (List.getElem_mem hi2) _ ⟨rfl, ?_⟩
    have hi3 : i < (xs.map g).length := by rw [List.length_map]; exact hi2
    rw [List.take_add_one, List.getElem?_eq_getElem hi3, List.getElem_map]
    rfl
  · obtain ⟨rfl, rfl⟩ := hp
    rw [List.length_map, List.take_of_length_le (by rw [List.length_map]; exact Nat.le_refl _)]
    exact hd
end
theorem all_true {α : Type} (xs : List α) : (xs.map fun _ => true).all id = true := by
  rw [List.all_eq_true]
  intro x hx
  obtain ⟨_, _, rfl⟩ := List.mem_map.mp hx
  rfl
/-- rows of a table, read by the cells -/
inductive RowsS (S : Sto) : List D → List (List Int) → Prop
  | nil : RowsS S [] []
  | cons {d : D} {ds : List D} {r : List Int} {t : List (List Int)} : asL S d = some (r.map D.int) → RowsS S ds t → RowsS S (d :: ds) (r :: t)
def TabS (S : Sto) (d : D) (t : List (List Int)) : Prop := ∃ ds, asL S d = some ds ∧ RowsS S ds t
namespace RowsS
variable {S T : Sto} {ds es : List D} {t u : List (List Int)}
theorem len (h : RowsS S ds t) : ds.length = t.length := by
  induction h with
  | nil => rfl
  | cons _ _ ih => rw [List.length_cons, List.length_cons, ih]
theorem app (h : RowsS S ds t) : RowsS (S ++ T) ds t := by
  induction h with
  | nil => exact .nil
  | cons a _ ih => exact .cons (asL_app a) ih
theorem take (h : RowsS S ds t) : ∀ n, RowsS S (ds.take n) (t.take n) := by
  induction h with
  | nil => intro n; rw [List.take_nil, List.take_nil]; exact .nil
  | cons a _ ih =>
    intro n
    cases n with
    | zero => exact .nil
    | succ n => exact .cons a (ih n)
theorem drop (h : RowsS S ds t) : ∀ n, RowsS S (ds.drop n) (t.drop n) := by
  induction h with
  | nil => intro n; rw [List.drop_nil, List.drop_nil]; exact .nil
  | cons a b ih =>
    intro n
    cases n with
    | zero => exact .cons a b
    | succ n => exact ih n
theorem get (h : RowsS S ds t) : ∀ {i : Nat} (hi : i < t.length) (hd : i < ds.length), asL S ds[i] = some ((t[i]).map D.int) := by
  induction h with
  | nil => intro i hi; exact absurd hi (by simp)
  | cons a b ih =>
    intro i hi hd
    cases i with
    | zero => exact a
    | succ i => exact ih (by simpa using hi) (by simpa using hd)
theorem mem (h : RowsS S ds t) {d : D} (hd : d ∈ ds) : ∃ r ∈ t, asL S d = some (r.map D.int) := by
  induction h with
  | nil => cases hd
  | cons a _ ih =>
    rcases List.mem_cons.mp hd with rfl | hd
    · exact ⟨_, List.mem_cons_self, a⟩
    · obtain ⟨r, hr, e⟩ := ih hd
      exact ⟨r, List.mem_cons_of_mem _ hr, e⟩
end RowsS
theorem TabS.app {S T : Sto} {d : D} {t : List (List Int)} (h : TabS S d t) : TabS (S ++ T) d t := let ⟨ds, e, r⟩ := h; ⟨ds, asL_app e, r.app⟩
theorem TabS.ty {S : Sto} {d : D} {t : List (List Int)} (h : TabS S d t) : tyOf S d = some "list" := let ⟨_, e, _⟩ := h; tyOf_L e
end DL
namespace DL
open PySem PySem.Spec PyProof.Rows L2
/-- an instance, frozen or a cell -/
def asI (S : Sto) : D → Option (Addr × List (Str × D))
  | .ins C fs => some (C, fs)
  | .own h => match S[h]? with
    | some (.ins C fs) => some (C, fs)
    | _ => none
  | _ => none
section
variable {K : PySem.W.Frag} {w : Hs} {S : Sto}
theorem asI_own {h : Nat} {C : Addr} {fs : List (Str × D)} (e : S[h]? = some (.ins C fs)) : asI S (.own h) = some (C, fs) := by
  show (match S[h]? with
    | some (.ins C fs) => some (C, fs)
    | _ => none) = some (C, fs)
  rw [e]
theorem own_ins {h : Nat} {C : Addr} {fs : List (Str × D)} (e : asI S (.own h) = some (C, fs)) : S[h]? = some (.ins C fs) := by
  unfold asI at e
  dsimp only at e
  split at e
  · cases e; assumption
  · cases e
theorem ins_at (g : Good K w S) {h : Nat} {v : V} {C : Addr} {fs : List (Str × D)} (r : Rv K w v (.own h)) (e : S[h]? = some (.ins C fs)) : ∃ a dx vs, v = .ref a ∧ w.al[h]? = some a ∧ w.H a = some (.ins C dx vs) ∧ RpF K w.F w.al vs fs := by
  cases r with
  | @own h a q =>
    obtain ⟨_, dx, vs, h2, h3⟩ := g.cell h a _ q e
    exact ⟨a, dx, vs, rfl, q, h2, h3⟩
theorem asI_at (g : Good K w S) {v : V} {d : D} {C : Addr} {fs : List (Str × D)} (r : Rv K w v d) (e : asI S d = some (C, fs)) : ∃ a dx vs, v = .ref a ∧ w.H a = some (.ins C dx vs) ∧ RpF K w.F w.al vs fs := by
  cases d with
  | ins C' fs' =>
    cases e
    cases r with
    | ins h1 h2 => exact ⟨_, _, _, rfl, g.sub _ _ h1, h2⟩
  | own h =>
    obtain ⟨a, dx, vs, e1, _, h2, h3⟩ := ins_at g r (own_ins e)
    exact ⟨a, dx, vs, e1, h2, h3⟩
  | _ => cases e
variable {F : Hp} {al : List Addr}
theorem rf_some {f : Str} {d : D} : ∀ {vs : List (Str × V)} {fs : List (Str × D)}, RpF K F al vs fs → fs.lookup f = some d → ∃ v, vs.lookup f = some v ∧ Rp K F al v d
  | _, _, .nil, e => by cases e
  | (n, v) :: vs, (_, d') :: fs, .cons r t, e => by
    rw [List.lookup_cons] at e ⊢
    cases q : (f == n) with
    | true =>
      rw [q] at e
      cases e
      exact ⟨v, rfl, r⟩
    | false =>
      rw [q] at e
      exact rf_some t e
theorem rf_none {f : Str} : ∀ {vs : List (Str × V)} {fs : List (Str × D)}, RpF K F al vs fs → fs.lookup f = none → vs.lookup f = none
  | _, _, .nil, _ => rfl
  | (n, v) :: vs, (_, d') :: fs, .cons r t, e => by
    rw [List.lookup_cons] at e ⊢
    cases q : (f == n) with
    | true => rw [q] at e; cases e
    | false =>
      rw [q] at e
      exact rf_none t e
theorem rf_len : ∀ {vs : List (Str × V)} {fs : List (Str × D)}, RpF K F al vs fs → vs.length = fs.length
  | _, _, .nil => rfl
  | _ :: _, _ :: _, .cons _ t => by rw [List.length_cons, List.length_cons, rf_len t]
/-- an attribute written -/
def putD (f : Str) (d : D) : List (Str × D) → List (Str × D)
  | [] => [(f, d)]
  | (g, x) :: r => if g = f then (g, d) :: r else (g, x) :: putD f d r
theorem rf_put {f : Str} {v : V} {d : D} (rv : Rp K F al v d) : ∀ {vs : List (Str × V)} {fs : List (Str × D)}, RpF K F al vs fs → RpF K F al (putF f v vs) (putD f d fs)
  | _, _, .nil => .cons rv .nil
  | (n, x) :: vs, (_, d') :: fs, .cons r t => by
    unfold putF putD
    by_cases h : n = f
    · rw [if_pos h, if_pos h]; exact .cons rv t
    · rw [if_neg h, if_neg h]; exact .cons r (rf_put rv t)
end
section
variable {X : Cx} {W : WX} {o e : Expr} {es : List Expr} {f m x : Str} {pos apos p : Pos} {to te : TE} {To Te : TD} {tl tk' : TA} {Tl Tk : TL} {C : Addr} {k : Nat} {sp : DSpec}
/-- o.f, o an instance of the class at C -/
def dFld (C : Addr) (f : Str) (T : TD) : TD := fun Γ S Φ Ψ => T Γ S (fun S1 d => ∃ fs, asI S1 d = some (C, fs) ∧ ∃ y, fs.lookup f = some y ∧ Φ S1 y) Ψ
theorem je_fld (cl : Cls X.K C) (na : NoAttr X.K C f) (he : JE X W o to To) (hb : attributeBase o f X.env (eval o X.env) = eval o X.env := by rfl) : JE X W (.Attribute o f pos) (tFld X.K to f) (dFld C f To) :=
  ⟨pe_fld he.pe hb, fun Γ S Φ Ψ σ w g sl h hx Q q => he.sem Γ S _ Ψ σ w g sl h hx _ fun v d w1 S1 e1 g1 r1 ⟨fs, e2, y, l, h1⟩ => by
    obtain ⟨a, dx, vs, rfl, hH, rf⟩ := asI_at g1 r1 e2
    obtain ⟨u, lu, ru⟩ := rf_some rf l
    exact ⟨a, C, dx, vs, u, rfl, hH, cl, na, lu, q u y w1 S1 e1 g1 ru h1⟩⟩
/-- o.f, a constant of o's class: by a table of classes -/
def dConI (tab : List (Addr × D)) (f : Str) (T : TD) : TD := fun Γ S Φ Ψ => T Γ S (fun S1 d => ∃ C fs, asI S1 d = some (C, fs) ∧ fs.lookup f = none ∧ ∃ y, (C, y) ∈ tab ∧ Φ S1 y) Ψ
def dCVal (tab : List (Addr × D)) (f : Str) (T : TD) : TD := fun Γ S Φ Ψ => T Γ S (fun S1 d => ∃ C, d = .obj C ∧ ∃ y, (C, y) ∈ tab ∧ Φ S1 y) Ψ
/-- o.f = e, o a cell -/
def sFldS (C : Addr) (f : Str) (To Te : TD) : TSd := fun D Γ S => Te Γ S (fun S1 y => To Γ S1 (fun S2 d => ∃ h fs, d = .own h ∧ S2[h]? = some (.ins C fs) ∧ fs.length < 1000 ∧ D.nx Γ (S2.set h (.ins C (putD f y fs)))) D.er) D.er
theorem js_fld {pos' : Pos} (cl : Cls X.K C) (na : NoAttr X.K C f) (ho : JE X W o to To) (he : JE X W e te Te) (hs : swapsWith e (some (.Attribute o f pos')) pos.line X.env = pure false := by rfl) : JS X W (.Assign [.Attribute o f pos'] e pos) (sFld X.K to te f) (sFldS C f To Te) :=
  ⟨ps_fld ho.pe he.pe hs, fun D' Γ S σ w D g sl h r => he.sem Γ S _ _ σ w g sl h (r.er σ) _ fun y dy w1 S1 e1 g1 r1 h1 => ho.sem Γ S1 _ _ σ w1 g1 (sl.ext e1) h1 ((r.er σ).ext e1) _ fun v d w2 S2 e2 g2 r2 ⟨hh, fs, ed, es, hl, h2⟩ => by
    subst ed
    obtain ⟨a, dx, vs, rfl, ha, hH, rf⟩ := ins_at g2 r2 es
    have e12 := e1.trans e2
    refine ⟨a, C, dx, vs, rfl, hH, cl, na, by rw [rf_len rf]; exact hl, ?_⟩
    have hm : a ∈ w2.al := List.mem_of_getElem? ha
    exact r.nx σ Γ (w2.wr a (.ins C dx (putF f y vs))) _ (e12.trans (Ext.wr _ hm)) (g2.wrI ha es (rf_put (e2.rp r1) rf)) ((sl.ext e12).ext (Ext.wr _ hm)) h2⟩
theorem at_last {al : List Addr} {p : Addr} {n : Nat} (h : al.length = n) : (al ++ [p])[n]? = some p := by
  rw [← h, List.getElem?_append_right (Nat.le_refl _), Nat.sub_self] <;> rfl
end
end DL
namespace DL
open PySem PySem.Spec PyProof.Rows L2
section
variable {M : Model} {A : Around} {E : Value → Shared → Prop} {s : Shared}
abbrev Keeps (M : Model) (f : Value) (h : Heap) : Prop := ∃ k, (k = Keeper.frame ∨ k = Keeper.machine ∨ k = Keeper.boundFrame) ∧ PySem.W.Looks M h (keeperOf f) k
theorem cw_any {f : Value} {first : List Value} {pos : Pos} {R : Value → Shared → Prop} {args : List (Bool × Sem Value)} {kws : List (Option Str × Sem Value)}
    (h : wpAny M A (evalArgs f true args kws) (fun a s1 => Keeps M f s1.heap ∧ wpAny M A (call f (first ++ a.pos) a.kw) R E s1) E s) : wpAny M A (callWith pos f first args kws) R E s := by
  cases st : (args.any (·.1) || kws.any (·.1.isNone)) with
  | false => exact PySem.W.callWith_of (P := Keeps M f) st (fun _ q => q) h
  | true =>
    unfold callWith
    refine wpAny_bind (wpAny_holding (wpAny_mono h (fun a s1 q => wpAny_bind (wpAny_standAt ?_)) fun _ _ z => z))
    obtain ⟨⟨k, hk, L⟩, q⟩ := q
    simp only [st]
    refine wpAny_bind (L.here ?_)
    have tail : ∀ {t : Sem Value}, wpAny M A t R E s1 → wpAny M A (t >>= fun r => holding [r] point >>= fun _ => pure r) R E s1 :=
      fun ht => wpAny_bind (wpAny_mono ht (fun r s2 hr => wpAny_bind (wpAny_holding (wpAny_point (wpAny_pure hr)))) fun _ _ y => y)
    have marked (mk : Value) : wpAny M A (callMarked mk f (first ++ a.pos) a.kw) R E s1 := by unfold callMarked; exact PySem.Calls.wpAny_keep q
    rcases hk with rfl | rfl | rfl <;> dsimp only <;> first | exact tail (marked _) | exact tail (wpAny_operating q)
end
abbrev TA2 := L2.St → Hp → (List V → List V → Hp → Prop) → Prop
abbrev TL2 := Gam → Sto → (Sto → List D → List D → Prop) → KX → Prop
def SemA2 (K : PySem.W.Frag) (W : WX) (t : TA2) (T : TL2) : Prop := ∀ Γ S Φ Ψ σ w, Good K w S → Slots K w σ Γ → T Γ S Φ Ψ → OkX K W w Ψ σ → ∀ Q : List V → List V → Hp → Prop,
  (∀ vs zs ds es w' S', Ext w w' → Good K w' S' → Ra K w' vs ds → Ra K w' zs es → Φ S' ds es → Q vs zs w'.H) → t σ w.H Q
structure JC (X : Cx) (W : WX) (es : List Expr) (kws : List Keyword) (ks : List Str) (t : TA2) (T : TL2) : Prop where
  run : ∀ (pins : List (Addr × Obj)) (s : Shared) (σ : L2.St) (H : Hp) (Q : List V → List V → Hp → Prop) (f : Value) (first : List Value) (pos : Pos) (R : Value → Shared → Prop), Inv X pins σ H s → t σ H Q →
    (∀ s1 H1 us ws vs zs, Inv X pins σ H1 s1 → Vals vs us → Vals zs ws → zs.length = ks.length → Q vs zs H1 → Keeps (model X.prog X.w) f s1.heap ∧ wpAny (model X.prog X.w) X.A (call f (first ++ us) (ks.zip ws)) R X.xe s1) →
    wpAny (model X.prog X.w) X.A (callWith pos f first (backTo pos (starEach es X.env)) (backToKw pos (keywordEach kws X.env))) R X.xe s
  sem : SemA2 X.K W t T
def t2 (t tk : TA) (n : Nat) : TA2 := fun σ H Q => t σ H fun vs H1 => tk σ H1 fun zs H2 => zs.length = n ∧ Q vs zs H2
def d2 (T Tk : TL) (n : Nat) : TL2 := fun Γ S Φ Ψ => T Γ S (fun S1 ds => Tk Γ S1 (fun S2 es => es.length = n ∧ Φ S2 ds es) Ψ) Ψ
def dLone (T : TD) (Tk : TL) (n : Nat) : TL2 := fun Γ S Φ Ψ => T Γ S (fun S1 d => Tk Γ S1 (fun S2 es => es.length = n ∧ ∃ ds, asS S2 d = some ds ∧ Φ S2 ds es) Ψ) Ψ
def lStar (T : TD) (U : TL) : TL := fun Γ S Φ Ψ => T Γ S (fun S1 d => ∃ ds, asS S1 d = some ds ∧ U Γ S1 (fun S2 xs => Φ S2 (ds ++ xs)) Ψ) Ψ
section
variable {X : Cx} {W : WX} {e : Expr} {es : List Expr} {kws : List Keyword} {ks : List Str} {te : TE} {Te : TD} {tl tk : TA} {Tl Tk : TL} {p : Pos}
theorem sem_t2 {K : PySem.W.Frag} {n : Nat} (h1 : SemA K W tl Tl) (h2 : SemA K W tk Tk) : SemA2 K W (t2 tl tk n) (d2 Tl Tk n) := fun Γ S Φ Ψ σ w g sl h hx Q q =>
  h1 Γ S _ Ψ σ w g sl h hx _ fun vs ds w1 S1 e1 g1 r1 k1 => h2 Γ S1 _ Ψ σ w1 g1 (sl.ext e1) k1 (hx.ext e1) _ fun zs es w2 S2 e2 g2 r2 ⟨hl, k2⟩ => ⟨by rw [r2.length]; exact hl, q vs zs ds es w2 S2 (e1.trans e2) g2 (e2.ra r1) r2 k2⟩
/-- the keywords' values -/
theorem kw_run {pos : Pos} {pins : List (Addr × Obj)} {s : Shared} {σ : L2.St} {H : Hp} {Q : List V → Hp → Prop} {Z : List Value → Shared → Prop} (hk : JK X W kws tk Tk) (I : Inv X pins σ H s) (h : tk σ H Q) (q : ∀ ws s1 zs H1, Inv X pins σ H1 s1 → Vals zs ws → Q zs H1 → Z ws s1) :
    wpAny (model X.prog X.w) X.A (evalAll ((backToKw pos (keywordEach kws X.env)).map (·.2))) Z X.xe s := thn (hk.pk.run pos pins s σ H Q I h) fun ws s1 ⟨zs, H1, I1, r, q1⟩ => q ws s1 zs H1 I1 r q1
/-- the first one is not starred -/
theorem jc_cons (ha : JA X W (e :: es) tl Tl) (hk : JK X W kws tk Tk) (hall : ∀ pos, (backToKw pos (keywordEach kws X.env)).all (·.1.isSome) = true := by intro _; rfl) (hks : ∀ pos, (backToKw pos (keywordEach kws X.env)).filterMap (·.1) = ks := by intro _; rfl)
    (he : starEach (e :: es) X.env = (false, eval e X.env) :: starEach es X.env := by rfl) : JC X W (e :: es) kws ks (t2 tl tk ks.length) (d2 Tl Tk ks.length) :=
  ⟨fun pins s σ H Q f first pos R I h q => cw_any (evalArgs_kw2 (hall pos) (thn (ha.pa.run pos pins s σ H _ I h) fun us s1 ⟨vs, H1, I1, r, h1⟩ => kw_run hk I1 h1 fun ws s2 zs H2 I2 rz h2 => by
    rw [hks pos]
    exact q s2 H2 us ws vs zs I2 r rz h2.1 h2.2) he), sem_t2 ha.sem hk.sem⟩
/-- no positional ones -/
theorem jc_nil (hk : JK X W kws tk Tk) (hall : ∀ pos, (backToKw pos (keywordEach kws X.env)).all (·.1.isSome) = true := by intro _; rfl) (hks : ∀ pos, (backToKw pos (keywordEach kws X.env)).filterMap (·.1) = ks := by intro _; rfl) :
    JC X W [] kws ks (t2 tNil tk ks.length) (d2 lNil Tk ks.length) :=
  ⟨fun pins s σ H Q f first pos R I h q => cw_any (evalArgs_kw2_nil (hall pos) (kw_run (Q := fun zs H2 => zs.length = ks.length ∧ Q [] zs H2) hk I h fun ws s2 zs H2 I2 rz h2 => by
    rw [hks pos]
    exact q s2 H2 [] ws [] zs I2 .nil rz h2.1 h2.2)), sem_t2 (ja_nil (X := X)).sem hk.sem⟩
end
abbrev DSpK := List D → List D → Sto → KD → KX → Prop
def spK (K : PySem.W.Frag) (sp : DSpK) (vs zs : List V) (H : Hp) (Q : VK) (E : XK) : Prop := ∃ w S ds es Φ Ψ, w.H = H ∧ Good K w S ∧ Ra K w vs ds ∧ Ra K w zs es ∧ sp ds es S Φ Ψ ∧ OkD K w Φ Q ∧
  ∀ cv dx x w' S', Ext w w' → Good K w' S' → RpX K w' cv dx x → Ψ S' x → E cv dx w'.H
structure FnK (P : Program) (wd : World) (K : PySem.W.Frag) (mg : Str → Option Value) (base : Heap) (k : Nat) (f : Addr) (ks : List Str) (sp : DSpK) : Prop where
  kp : PySem.W.keepIn K (.ref f) = true
  go : ∀ (A : Around) (outer : List Env) (s : Shared) (H : Hp) (us ws : List Value) (vs zs : List V) (Q : VK) (E : XK), A.guards = some [] → Room k A → Env0 P wd K mg base A outer s H → Vals vs us → Vals zs ws → zs.length = ks.length → spK K sp vs zs H Q E →
    codeAny (model P wd) A (.call (.ref f) ⟨us, ks.zip ws⟩) (CR (L2.CX P wd) outer P wd H s Q E) s
/-- a def's promise, called with n values: the parameters' places in values, defaults, keywords; with a star parameter behind a values -/
def pkP (n : Nat) (perm : List Nat) (md : List D) (sp : DSpec) : DSpK := fun ds es S Φ Ψ => ds.length = n ∧ sp (pick perm (ds ++ md) es) S Φ Ψ
def pkS (b : Bool) (a : Nat) (perm : List Nat) (md : List D) (sp : DSpec) : DSpK := fun ds es S Φ Ψ => (ds.take a).length = a ∧ (b = false → ds.drop a = []) ∧ (ds.drop a).length ≤ sizeLine ∧ sp (pick perm (ds.take a ++ md) es ++ [.tup (ds.drop a)]) S Φ Ψ
/-- the names looked up, one behind another, then m -/
def KwTo {α : Type} (D : Addr) : List (Str × Value) → Sem α → Sem α → Prop
  | [], t, m => t = m
  | q :: l, t, m => ∃ (β γ : Type) (k1 : Option Value → Sem β) (k2 : β → Sem γ) (k3 : γ → Sem α) (a : β), t = ((nsGet D q.1 >>= k1) >>= k2) >>= k3 ∧ k1 (some q.2) = pure a ∧ KwTo D l (k2 a >>= k3) m
theorem KwTo.wp {α : Type} {K : PySem.W.Frag} {M : Model} {A : Around} {E : Value → Shared → Prop} {Q : α → Shared → Prop} {s : Shared} {D : Addr} (X : K.In s.heap) : ∀ {l : List (Str × Value)} {t m : Sem α}, (∀ q ∈ l, PySem.W.nsIn K D q.1 = some (some q.2)) → KwTo D l t m → wpAny M A m Q E s → wpAny M A t Q E s
  | [], t, m, _, e, h => by
    obtain rfl : t = m := e
    exact h
  | q :: l, t, m, hl, ⟨β, γ, k1, k2, k3, a, e1, e2, e3⟩, h => by
    have l1 : PySem.W.Looks M s.heap (nsGet D q.1 >>= k1) a := (PySem.W.looks_nsIn X (hl q List.mem_cons_self)).andThen (PySem.W.Looks.of_pure e2)
    rw [e1, bind_assoc]
    exact wpAny_bind (l1.here (KwTo.wp X (fun p hp => hl p (List.mem_cons_of_mem _ hp)) e3 h))
/-- the lacking keyword-only ones -/
theorem kwd_of {K : PySem.W.Frag} {kV : Value} {kws ms : List (Str × V)} (h : KwdV K kV kws) (hm : ∀ q ∈ ms, q ∈ kws) : ∃ (D : Addr) (mv : List Value), (ms = [] ∨ kV = .ref D) ∧ mv.length = ms.length ∧ Vals (ms.map (·.2)) mv ∧ ∀ q ∈ (ms.map (·.1)).zip mv, PySem.W.nsIn K D q.1 = some (some q.2) := by
  cases ms with
  | nil => exact ⟨0, [], .inl rfl, rfl, .nil, fun q hq => by cases hq⟩
  | cons m ms =>
    rcases h with e | ⟨D, e, hq⟩
    · subst e
      exact absurd (hm m List.mem_cons_self) (by simp)
    · obtain ⟨mv, hl, rk, hks⟩ := kwd_vals (ms := m :: ms) fun q hq2 => hq q (hm q hq2)
      exact ⟨D, mv, .inr e, hl, rk, hks⟩
section
variable {P : Program} {wd : World} {K : PySem.W.Frag} {mg : Str → Option Value} {base : Heap} {x qual : Str} {st : Stmt} {kws ms : List (Str × V)} {md : List D} {f : Addr} {fd : FuncData} {N ps ks : List Str} {k n : Nat} {perm : List Nat} {sp : DSpec}
abbrev BodyOk (P : Program) (wd : World) (K : PySem.W.Frag) (mg : Str → Option Value) (base : Heap) (N : List Str) (qual : Str) (st : Stmt) (f : Addr) (k : Nat) (sp : DSpec) : Prop :=
  ∀ (cdv : Value) (A : Around) (outer : List Env) (s : Shared) (H : Hp) (E : XK), (A.deeper (envOfC qual (defScope st) s.heap.objs.size f cdv)).guards = some [] → Room k (A.deeper (envOfC qual (defScope st) s.heap.objs.size f cdv)) →
    ∃ t T, JB (cxOf (L2.CX P wd) P wd K mg base N qual (defScope st) f cdv A outer s H E) (WD E) (defBody st) t T ∧ ∀ ds S Φ Ψ, sp ds S Φ Ψ → T { nx := fun _ S' => RetOk S Φ S' .non, rt := RetOk S Φ, er := ErOk S Ψ } (gstart N ds) S
/-- THE RULE: a def without a star parameter -/
theorem fnK_plain (F : FunD K x qual (defArgs st) (defBody st) (defScope st) [] kws f fd) (Sc : FnScope N ps (defScope st)) (hms : ∀ q ∈ ms, q ∈ kws) (hmd : ∀ w, Ra K w (ms.map (·.2)) md) (len : ∀ ds S Φ Ψ, sp ds S Φ Ψ → ds.length = ps.length)
    (hb : ∀ (D : Addr) (kV doc pm : Value) (an : Option Addr) (cdv ct : Value) (us mv ws : List Value), (ms = [] ∨ kV = .ref D) → us.length = n → mv.length = ms.length → ws.length = ks.length →
      KwTo D ((ms.map (·.1)).zip mv) (bindArgs (PySem.W.fnOf x qual (defArgs st) (defBody st) (defScope st) .none kV doc pm an cdv ct) ⟨us, ks.zip ws⟩) (pure (ps.zip (pick perm (us ++ mv) ws))))
    (hbody : BodyOk P wd K mg base N qual st f k sp) : FnK P wd K mg base (k + 1) f ks (pkP n perm md sp) := by
  refine ⟨F.kp, fun A outer s H us ws vs zs Q E gd hr e0 rv rz hl ⟨w, S, ds, es, Φ, Ψ, hH, g, r1, r2, ⟨hn, hsp⟩, q, hx⟩ => ?_⟩
  subst hH
  obtain ⟨oc, od, dV, kV, doc, pm, an, cdv, ct, osl, rfl, lk, hcd, hD, hK⟩ := F.ex
  obtain ⟨D, mv, h1, h2, rm, hks⟩ := kwd_of hK hms
  have KX : K.In s.heap := e0.mod.kin.keeps fun b o e => (e0.bs b o e).1
  have eD : dV = .none := hD.elim (fun z => z.2) fun z => absurd rfl z.1
  subst eD
  have bd := hb D kV doc pm an cdv ct us mv ws h1 (by rw [← rv.length, r1.length]; exact hn) (by rw [h2]) (by rw [← rz.length]; exact hl)
  have rr : Ra K w (pick perm (vs ++ ms.map (·.2)) zs) (pick perm (ds ++ md) es) := pick_ra (r1.append (hmd w)) r2 _
  have rp : Vals (pick perm (vs ++ ms.map (·.2)) zs) (pick perm (us ++ mv) ws) := pick_vals (rv.append rm) rz _
  have many := len _ _ _ _ hsp
  refine StX.run_bnd (N := N) (ps := ps) (G := fun xs H2 => xs = pick perm (vs ++ ms.map (·.2)) zs ∧ H2 = w.H) lk hcd Sc hr e0 (fun A' Ex Q' h => ?_) fun s2 H2 xs ⟨ex, eH⟩ hr' => ?_
  · exact KwTo.wp KX hks bd (wpAny_pure (h s w.H _ _ e0 Un.refl rfl (fun _ _ z => z) rp (by rw [rr.length]; exact many) ⟨rfl, rfl⟩))
  · subst ex eH
    obtain ⟨t, T, jb, hq⟩ := hbody cdv A outer s2 w.H E (by show A.guards = some []; exact gd) hr'
    exact ⟨t, jb.pss, body_ok2 jb.sem hq ⟨w, S, _, Φ, Ψ, rfl, g, rr, hsp, q, hx⟩⟩
end
end DL
namespace DL
open PySem PySem.Spec PyProof.Rows L2
theorem under_guards {A : Around} {C : Addr} {us : List Value} {kw : List (Str × Value)} : (A.under (.builtin "type.__call__" ⟨.ref C :: us, kw⟩)).guards = A.guards := by
  first | rfl | simp [Around.under, Code.weight, Code.isCreation, Code.isGuard, Code.isCaller, Code.frames, Code.isFrame, guardIds]
def dCallA (sp : DSpK) (T : TL2) : TD := fun Γ S Φ Ψ => T Γ S (fun S1 ds es => sp ds es S1 Φ Ψ) Ψ
def tMakeA (K : PySem.W.Frag) (C : Addr) (sp : DSpK) (W : WX) (t : TA2) : TE := fun σ H Q => t σ H fun vs zs H1 => ∀ x dx, H1 x = none → H1 dx = none → dx ≠ x → spK K sp (.ref x :: vs) zs (upd (upd H1 dx (.own x)) x (.ins C dx [])) (fun v H2 => v = .non ∧ Q (.ref x) H2) (WE W σ)
def dMakeA (C : Addr) (sp : DSpK) (T : TL2) : TD := fun Γ S Φ Ψ => T Γ S (fun S1 ds es => sp (.own S1.length :: ds) es (S1 ++ [.ins C []]) (fun S2 d => d = .non ∧ Φ S2 (.own S1.length)) Ψ) Ψ
def tMethA (K : PySem.W.Frag) (C : Addr) (m : Str) (sp : DSpK) (W : WX) (to : TE) (t : TA2) : TE := fun σ H Q => to σ H fun x H1 => ∃ a dx fs, x = .ref a ∧ H1 a = some (.ins C dx fs) ∧ fs.lookup m = none ∧ t σ H1 fun vs zs H2 => spK K sp (x :: vs) zs H2 Q (WE W σ)
def dMethA (C : Addr) (m : Str) (sp : DSpK) (To : TD) (T : TL2) : TD := fun Γ S Φ Ψ => To Γ S (fun S1 d => ∃ fs, asI S1 d = some (C, fs) ∧ fs.lookup m = none ∧ T Γ S1 (fun S2 ds es => sp (d :: ds) es S2 Φ Ψ) Ψ) Ψ
def dCMethA (C : Addr) (sp : DSpK) (To : TD) (T : TL2) : TD := fun Γ S Φ Ψ => To Γ S (fun S1 d => d = .obj C ∧ T Γ S1 (fun S2 ds es => sp (.obj C :: ds) es S2 Φ Ψ) Ψ) Ψ
def dPropA (C : Addr) (sp : DSpK) (To : TD) : TD := fun Γ S Φ Ψ => To Γ S (fun S1 d => ∃ fs, asI S1 d = some (C, fs) ∧ sp [d] [] S1 Φ (fun _ _ => False)) Ψ
def dMakeV (i : Nat) (C : Addr) (sp : DSpK) (T : TL2) : TD := fun Γ S Φ Ψ => Γ[i]? = some (some (.obj C)) ∧ dMakeA C sp T Γ S Φ Ψ
section
variable {K : PySem.W.Frag} {W : WX} {sp : DSpK} {t : TA2} {T : TL2} {to : TE} {To : TD} {C : Addr} {m : Str}
theorem spk_of {w : Hs} {S : Sto} {vs zs : List V} {ds es : List D} {Φ : KD} {Ψ : KX} {Q : VK} {σ : L2.St} {w0 : Hs} (g : Good K w S) (r : Ra K w vs ds) (rz : Ra K w zs es) (h : sp ds es S Φ Ψ) (q : OkD K w Φ Q) (e : Ext w0 w) (hx : OkX K W w0 Ψ σ) : spK K sp vs zs w.H Q (WE W σ) :=
  ⟨w, S, ds, es, Φ, Ψ, rfl, g, r, rz, h, q, fun cv dx x w' S' e2 gg rr hΨ => hx cv dx x w' S' (e.trans e2) gg rr hΨ⟩
theorem sem_makeA (h : SemA2 K W t T) : SemE K W (tMakeA K C sp W t) (dMakeA C sp T) := fun Γ S Φ Ψ σ w g sl hT hx Q q =>
  h Γ S _ Ψ σ w g sl hT hx _ fun vs zs ds es w1 S1 e1 g1 r1 r2 h1 => fun x dx h0 hd _ => by
    have e2 : Ext w1 (w1.celI x dx C) := Ext.celI g1 h0 hd
    have own : Rv K (w1.celI x dx C) (.ref x) (.own S1.length) := .own (at_last g1.len)
    refine spk_of (g1.celI h0 hd) (.cons own (e2.ra r1)) (e2.ra r2) h1 ?_ (e1.trans e2) hx
    rintro v d w3 S3 e3 g3 r3 ⟨ed, h3⟩
    subst ed
    exact ⟨rv_non r3, q (.ref x) (.own S1.length) w3 S3 ((e1.trans e2).trans e3) g3 (e3.rp own) h3⟩
theorem sem_methA (ho : SemE K W to To) (h : SemA2 K W t T) : SemE K W (tMethA K C m sp W to t) (dMethA C m sp To T) := fun Γ S Φ Ψ σ w g sl hT hx Q q =>
  ho Γ S _ Ψ σ w g sl hT hx _ fun v d w1 S1 e1 g1 r1 ⟨fs, e2, l, h1⟩ => by
    obtain ⟨a, dx, vs, rfl, hH, rf⟩ := asI_at g1 r1 e2
    exact ⟨a, dx, vs, rfl, hH, rf_none rf l, h Γ S1 _ Ψ σ w1 g1 (sl.ext e1) h1 (hx.ext e1) _ fun us zs ds es w2 S2 e3 g2 r2 r3 h2 => spk_of g2 (.cons (e3.rp r1) r2) r3 h2 (q.ext (e1.trans e3)) (e1.trans e3) hx⟩
end
section
variable {X : Cx} {W : WX} {o : Expr} {es : List Expr} {kws : List Keyword} {ks : List Str} {t : TA2} {T : TL2} {to : TE} {To : TD} {C : Addr} {m x : Str} {pos apos p : Pos} {k : Nat} {sp : DSpK} {f : Addr}
/-- the callee's run -/
theorem runK {pins : List (Addr × Obj)} {σ : L2.St} {H : Hp} {s : Shared} {Q : VK} {us ws : List Value} {vs zs : List V} (F : FnK X.prog X.w X.K X.mg X.base k f ks sp) (gd : X.A.guards = some []) (hr : Room k X.A) (tk : Takes X W) (I : Inv X pins σ H s) (r : Vals vs us) (rz : Vals zs ws) (hl : zs.length = ks.length)
    (h : spK X.K sp vs zs H Q (WE W σ)) : codeAny (model X.prog X.w) X.A (.call (.ref f) ⟨us, ks.zip ws⟩) (fun r s' => match r with | .ok (.ret v) => EP X pins σ Q v s' | .ok _ => False | .error e => X.xe e s') s := by
  refine codeAny_mono (F.go X.A X.stack s H us ws vs zs Q _ gd hr I.env0 r rz hl h) fun rr s2 hq => ?_
  match rr, hq with
  | .error u, hq => exact passAt tk σ pins H s u s2 I hq
  | .ok (.ret u), hq => exact I.after hq
  | .ok .next, hq => exact False.elim hq
  | .ok .brk, hq => exact False.elim hq
  | .ok .cont, hq => exact False.elim hq
/-- a class and its __init__ -/
structure CtorK (P : Program) (wd : World) (K : PySem.W.Frag) (mg : Str → Option Value) (base : Heap) (C : Addr) (k : Nat) (ks : List Str) (sp : DSpK) : Prop where
  ex : ∃ fi, Mk K C fi ∧ FnK P wd K mg base k fi ks sp
theorem goCtor {pins : List (Addr × Obj)} {σ : L2.St} {H : Hp} {s : Shared} {Q : VK} {us ws : List Value} {vs zs : List V} (c : CtorK X.prog X.w X.K X.mg X.base C k ks sp) (gd : X.A.guards = some []) (hr : Room (k + 1) X.A) (tk : Takes X W) (I : Inv X pins σ H s) (r : Vals vs us) (rz : Vals zs ws) (hl : zs.length = ks.length)
    (h : ∀ x dx, H x = none → H dx = none → dx ≠ x → spK X.K sp (.ref x :: vs) zs (upd (upd H dx (.own x)) x (.ins C dx [])) (fun v H2 => v = .non ∧ Q (.ref x) H2) (WE W σ)) : Keeps (model X.prog X.w) (.ref C) s.heap ∧ wpAny (model X.prog X.w) X.A (call (.ref C) us (ks.zip ws)) (EP X pins σ Q) X.xe s := by
  obtain ⟨fi, M, F⟩ := c.ex
  refine ⟨PySem.W.keeps_K M.kp _ I.kIn, ?_⟩
  have hs := h (s.heap.objs.size + 1) s.heap.objs.size (I.hok.fresh (Nat.le_succ _)) (I.hok.fresh (Nat.le_refl _)) (Nat.ne_of_lt (Nat.lt_succ_self _))
  have J := Inv.made (C := C) I
  have rr : Vals (V.ref (s.heap.objs.size + 1) :: vs) (Value.ref (s.heap.objs.size + 1) :: us) := .cons rfl r
  refine wpAny_call (make_map (f := fi) I.kIn M.makes M.init (beq_iff_eq.mp M.fn) (codeAny_mono (F.go _ X.stack _ _ _ ws _ zs _ _ (under_guards.trans gd) (hr.make C us (ks.zip ws)) (J.env0.make C us (ks.zip ws)) rr rz hl hs) fun z s2 hz => ?_))
  match z, hz with
  | .error u, hz => exact passAt tk σ pins _ _ u s2 J hz
  | .ok (.ret u), hz =>
    obtain ⟨v, H2, J2, rv, ev, q2⟩ := J.after hz
    subst ev
    exact ⟨rv, ⟨V.ref (s.heap.objs.size + 1), H2, J2, rfl, q2⟩⟩
  | .ok .next, hz => exact False.elim hz
  | .ok .brk, hz => exact False.elim hz
  | .ok .cont, hz => exact False.elim hz
theorem je_makeA (c : CtorK X.prog X.w X.K X.mg X.base C k ks sp) (hm : X.mg x = some (.ref C)) (gd : X.A.guards = some []) (hr : Room (k + 1) X.A) (hg : Gl X x) (tk : Takes X W) (ha : JC X W es kws ks t T) (hdb : (x == ("__debug__" : Str)) = false := by decide) :
    JE X W (.Call (.Name x p) es kws pos) (tMakeA X.K C sp W t) (dMakeA C sp T) :=
  ⟨⟨fun pins s σ H Q I h => wpAny_Call_Name_kw (ld_glob I hg hm (ha.run pins s σ H _ _ [] pos _ I h fun s1 H1 us ws vs zs I1 r rz hl h1 => goCtor c gd hr tk I1 r rz hl h1) hdb)⟩, sem_makeA ha.sem⟩
/-- a method -/
structure MethK (P : Program) (wd : World) (K : PySem.W.Frag) (mg : Str → Option Value) (base : Heap) (C : Addr) (m : Str) (k : Nat) (ks : List Str) (sp : DSpK) : Prop where
  cl : Cls K C
  ex : ∃ f, Meth K C m f ∧ FnK P wd K mg base k f ks sp
theorem je_methA {pl : Sem Bool} (c : MethK X.prog X.w X.K X.mg X.base C m k ks sp) (gd : X.A.guards = some []) (hr : Room k X.A) (tk : Takes X W) (ho : JE X W o to To) (ha : JC X W es kws ks t T)
    (ht : eval (.Call (.Attribute o m apos) es kws pos) X.env = (do
      let ov ← eval o X.env
      standAt apos.atName
      let (f, first) ← holding [ov] (getMethod ov m pl)
      callWith pos f first (backTo pos (starEach es X.env)) (backToKw pos (keywordEach kws X.env))) := by rfl) :
    JE X W (.Call (.Attribute o m apos) es kws pos) (tMethA X.K C m sp W to t) (dMethA C m sp To T) := by
  obtain ⟨f, hm, F⟩ := c.ex
  refine ⟨⟨fun pins s σ H Q I h => PySem.W.methodCall_KW (pl := pl) (thn (ho.pe.run pins s σ H _ I h) fun u s1 ⟨y, H1, I1, rx, a, dx, fs, ex, ea, l, q⟩ => ?_) ht⟩, sem_methA ho.sem ha.sem⟩
  subst ex
  obtain rfl : u = Value.ref a := rx
  exact getmeth_ok I1 ea c.cl hm l (ha.run pins s1 σ H1 _ _ [.ref a] pos _ I1 q fun s2 H2 us ws vs zs I2 r rz hl h1 => ⟨PySem.W.keeps_K hm.kp _ I2.kIn, wpAny_call (runK (us := .ref a :: us) (vs := .ref a :: vs) F gd hr tk I2 (.cons rfl r) rz hl h1)⟩)
end
def fzID (d : D) (S : Sto) (Φ : KD) : Prop := match d with
  | .own h => ∃ C fs, S[h]? = some (.ins C fs) ∧ Φ (S.set h .gone) (.ins C fs)
  | d => Φ S d
def dFzI (T : TD) : TD := fun Γ S Φ Ψ => T Γ S (fun S1 d => fzID d S1 Φ) Ψ
end DL
namespace DL
open PySem PySem.Spec PyProof.Rows L2
abbrev FaX : Type := PySem.W.Frag → Bool
def obsX (fa : List FaX) (fn : List He5.DefA) (K : PySem.W.Frag) : He.AlD := ((fa.all fun f => f K) && fn.all fun d => d.ok K, fn.map fun d => He5.fnA K (d.at_ K))
def SaysX (fa : List FaX) (fn : List He5.DefA) (K : PySem.W.Frag) : Prop := obsX fa fn K = He5.valA fn
section
variable {fa : List FaX} {fn : List He5.DefA} {K : PySem.W.Frag}
theorem SaysX.all (c : SaysX fa fn K) : (fa.all fun f => f K) = true ∧ (fn.all fun d => d.ok K) = true := by
  have c1 : ((fa.all fun f => f K) && fn.all fun d => d.ok K) = true := congrArg (fun z : He.AlD => z.1) c
  exact Bool.and_eq_true_iff.mp c1
theorem SaysX.fact (c : SaysX fa fn K) (i : Nat) {f : FaX} (h : fa[i]? = some f := by rfl) : f K = true := List.all_eq_true.mp c.all.1 f (List.mem_of_getElem? h)
theorem SaysX.def_ (c : SaysX fa fn K) (i : Nat) {d : He5.DefA} (h : fn[i]? = some d := by rfl) : ∃ fd, FunD K d.name d.qual d.params d.body d.scope (d.dvs K) (d.kws K) (d.at_ K) fd := by
  have e : fn.map (fun d => He5.fnA K (d.at_ K)) = fn.map He5.DefA.val := congrArg (fun z : He.AlD => z.2) c
  have e2 : (fn.map fun d => He5.fnA K (d.at_ K))[i]? = (fn.map He5.DefA.val)[i]? := by rw [e]
  rw [List.getElem?_map, List.getElem?_map, h] at e2
  exact He5.DefA.funD (Option.some.inj e2) (List.all_eq_true.mp c.all.2 d (List.mem_of_getElem? h))
end
section
variable {K : PySem.W.Frag} {x f m : Str}
open He
def bCRd (x : Str) : FaX := fun K => PySem.W.readsIn K (ga K x) (.type "type") && eqO (PySem.W.specialIn K (.ref (ga K x)) "__getattribute__") (some (some (.builtin "type.__getattribute__")))
theorem bCRd_ok (h : bCRd x K = true) : ClX.CRead K (ga K x) (.type "type") := ⟨(ba h).1, eqO_ok (ba h).2⟩
end
end DL
namespace DL
open PySem PySem.Spec PyProof.Rows L2
/-- a, b, .. = a list of that length -/
def lstG (n : Nat) (T : TGs') : TGd := fun d Γ S P => ∃ ds, asQ S d = some ds ∧ ds.length = n ∧ T ds Γ S P
section
variable {Γ : Gam} {S : Sto} {Φ : KD} {Ψ : KX}
theorem lstG_e {n : Nat} {T : TGs'} {d : D} {P : Gam → Sto → Prop} : lstG n T d Γ S P = (∃ ds, asQ S d = some ds ∧ ds.length = n ∧ T ds Γ S P) := rfl
theorem d2_e {T Tk : TL} {n : Nat} {Φ : Sto → List D → List D → Prop} : d2 T Tk n Γ S Φ Ψ = (T Γ S (fun S1 ds => Tk Γ S1 (fun S2 es => es.length = n ∧ Φ S2 ds es) Ψ) Ψ) := rfl
theorem dLone_e {T : TD} {Tk : TL} {n : Nat} {Φ : Sto → List D → List D → Prop} : dLone T Tk n Γ S Φ Ψ = (T Γ S (fun S1 d => Tk Γ S1 (fun S2 es => es.length = n ∧ ∃ ds, asS S2 d = some ds ∧ Φ S2 ds es) Ψ) Ψ) := rfl
theorem lStar_e {T : TD} {U : TL} {Φ : Sto → List D → Prop} : lStar T U Γ S Φ Ψ = (T Γ S (fun S1 d => ∃ ds, asS S1 d = some ds ∧ U Γ S1 (fun S2 xs => Φ S2 (ds ++ xs)) Ψ) Ψ) := rfl
theorem dCallA_e {sp : DSpK} {T : TL2} : dCallA sp T Γ S Φ Ψ = (T Γ S (fun S1 ds es => sp ds es S1 Φ Ψ) Ψ) := rfl
theorem dMakeA_e {C : Addr} {sp : DSpK} {T : TL2} : dMakeA C sp T Γ S Φ Ψ = (T Γ S (fun S1 ds es => sp (.own S1.length :: ds) es (S1 ++ [.ins C []]) (fun S2 d => d = .non ∧ Φ S2 (.own S1.length)) Ψ) Ψ) := rfl
theorem dMakeV_e {i : Nat} {C : Addr} {sp : DSpK} {T : TL2} : dMakeV i C sp T Γ S Φ Ψ = (Γ[i]? = some (some (.obj C)) ∧ dMakeA C sp T Γ S Φ Ψ) := rfl
theorem dMethA_e {C : Addr} {m : Str} {sp : DSpK} {To : TD} {T : TL2} : dMethA C m sp To T Γ S Φ Ψ = (To Γ S (fun S1 d => ∃ fs, asI S1 d = some (C, fs) ∧ fs.lookup m = none ∧ T Γ S1 (fun S2 ds es => sp (d :: ds) es S2 Φ Ψ) Ψ) Ψ) := rfl
theorem dCMethA_e {C : Addr} {sp : DSpK} {To : TD} {T : TL2} : dCMethA C sp To T Γ S Φ Ψ = (To Γ S (fun S1 d => d = .obj C ∧ T Γ S1 (fun S2 ds es => sp (.obj C :: ds) es S2 Φ Ψ) Ψ) Ψ) := rfl
theorem dPropA_e {C : Addr} {sp : DSpK} {To : TD} : dPropA C sp To Γ S Φ Ψ = (To Γ S (fun S1 d => ∃ fs, asI S1 d = some (C, fs) ∧ sp [d] [] S1 Φ (fun _ _ => False)) Ψ) := rfl
theorem dFld_e {C : Addr} {f : Str} {T : TD} : dFld C f T Γ S Φ Ψ = (T Γ S (fun S1 d => ∃ fs, asI S1 d = some (C, fs) ∧ ∃ y, fs.lookup f = some y ∧ Φ S1 y) Ψ) := rfl
theorem sFldS_e {E : EdD} {C : Addr} {f : Str} {To Te : TD} : sFldS C f To Te E Γ S = (Te Γ S (fun S1 y => To Γ S1 (fun S2 d => ∃ h fs, d = .own h ∧ S2[h]? = some (.ins C fs) ∧ fs.length < 1000 ∧ E.nx Γ (S2.set h (.ins C (putD f y fs)))) E.er) E.er) := rfl
theorem dFzI_e {T : TD} : dFzI T Γ S Φ Ψ = (T Γ S (fun S1 d => fzID d S1 Φ) Ψ) := rfl
theorem fzID_o {h : Nat} : fzID (.own h) S Φ = (∃ C fs, S[h]? = some (.ins C fs) ∧ Φ (S.set h .gone) (.ins C fs)) := rfl
theorem pkP_e {n : Nat} {perm : List Nat} {md ds es : List D} {sp : DSpec} : pkP n perm md sp ds es S Φ Ψ = (ds.length = n ∧ sp (pick perm (ds ++ md) es) S Φ Ψ) := rfl
theorem pkS_e {b : Bool} {a : Nat} {perm : List Nat} {md ds es : List D} {sp : DSpec} : pkS b a perm md sp ds es S Φ Ψ = ((ds.take a).length = a ∧ (b = false → ds.drop a = []) ∧ (ds.drop a).length ≤ sizeLine ∧ sp (pick perm (ds.take a ++ md) es ++ [.tup (ds.drop a)]) S Φ Ψ) := rfl
theorem asI_i {C : Addr} {fs : List (Str × D)} : asI S (.ins C fs) = some (C, fs) := rfl
end
end DL
namespace DL
open PySem PySem.Spec PyProof.Rows L2
/-- an object that is known from here on -/
abbrev known (oe : Obj) : HO := .frz oe (.ext fun _ => True)
section
variable {X : Cx} {σ : L2.St} {H : Hp} {s : Shared} {a : Addr} {oe : Obj} {pl : List (Addr × Obj)} {pins : List (Addr × Obj)}
theorem taken_up (I : Inv (X.suite a ((a, oe) :: (X.pn ++ pins))) [] σ H s) (ok : X.Ok) (h0 : X.s_0.heap.get? a = none) (hp : ∀ p ∈ X.pn ++ pins, p.1 ≠ a) : Inv X pins σ (upd H a (known oe)) s := by
  have pin_a := I.pin (a, oe) List.mem_cons_self
  obtain ⟨ga, na, nL, -, nc⟩ := pin_a
  have ga : s.heap.get? a = some oe := ga
  have na : H a = none := na
  have ne : ∀ b u, H b = some u → b ≠ a := fun b u e z => by rw [z, na] at e; cases e
  have up : ∀ b u, H b = some u → upd H a (known oe) b = some u := fun b u e => by rw [upd_ne (ne b u e)]; exact e
  have B := I.base
  refine ⟨ok, I.os, I.bare, ⟨B.keep, B.slot, ?_, B.there, ?_, ?_, ?_⟩, I.loc, I.cell, ?_, ?_, ?_, ?_, I.len⟩
  · intro b o e n x
    have z : b ≠ a := fun z => by rw [z, h0] at e; cases e
    rw [upd_ne z]
    exact B.free b o e n x
  · exact fun b xs e => up _ _ (B.tups b xs e)
  · exact fun b o u e => up _ _ (B.frzs b o u e)
  · intro b ps e
    obtain ⟨m, q⟩ := B.tbls b ps e
    exact ⟨m, up _ _ q⟩
  · have z : X.env.locals ≠ a := Ne.symm nL
    rw [upd_ne z]
    exact I.free
  · intro x c e
    have z : c ≠ a := fun z => by
      obtain ⟨v, q⟩ := I.cell x c e
      rw [z] at q
      obtain ⟨o, e1, e2⟩ := q
      rw [ga] at e1
      cases e1
      exact nc _ e2
    rw [upd_ne z]
    exact I.freeC x c e
  · intro p hm
    obtain ⟨h1, h2, h3, h4, h5⟩ := I.pin p (List.mem_append_left [] (List.mem_cons_of_mem _ hm))
    refine ⟨h1, ?_, h3, h4, h5⟩
    rw [upd_ne (hp p hm)]
    exact h2
  · intro b u e
    by_cases z : b = a
    · subst z
      rw [upd_same] at e
      cases e
      exact ⟨ga, trivial, ⟨oe, ga⟩, fun _ _ _ _ => trivial⟩
    · rw [upd_ne z] at e
      exact (I.hok b u e).stay (fun _ _ _ q => q) (fun c q => up _ _ q) fun c xs q => up _ _ q
end
/-- try: e / except c as n: y = n; all that e raises is of the classes Cs -/
def sKeep (Cs : List Addr) (i j : Nat) (T : TD) : TSd := fun E Γ S => T Γ S (fun S1 _ => E.nx Γ S1) (fun S1 x => x.cls ∈ Cs ∧ i < Γ.length ∧ E.nx (((Γ.set i (some (.exc x.cls x.fs))).set j (some (.exc x.cls x.fs))).set i none) S1)
end DL
namespace DL
open PySem PySem.Spec PyProof.Rows L2
/-- what the class D must say, so that isinstance asks its instances rightly -/
structure ExcT (K : PySem.W.Frag) (D : Addr) : Prop where
  cl : (PySem.W.clsIn K D).isSome = true
  ga : PySem.W.findIn K (.ref D) "__getattribute__" = some (some (.builtin "BaseException.__getattribute__"))
  gt : PySem.W.findIn K (.ref D) "__getattr__" = some none
  sub : PySem.W.subIn K (.ref D) (.type "BaseException") = some true
  ha : PySem.W.findIn K (.ref D) "__class__" = some (some (.builtin "object.__class__"))
  hn : PySem.W.specialIn K (.builtin "object.__class__") "__get__" = some (some (.builtin "getset_descriptor.__get__"))
  tk : PySem.W.takesIn K (.builtin "object.__class__") = some true
  mo : PySem.W.mroIn K D (.type "object") = some true
end DL
namespace DL
open PySem PySem.Spec PyProof.Rows L2
/-- C() -/
def dMk0 (C : Addr) : TD := fun _ S Φ _ => Φ (S ++ [.ins C []]) (.own S.length)
end DL
namespace DL
open PySem PySem.Spec PyProof.Rows L2
def dSlS (d : D) (lo hi : Option Int) (S : Sto) (Φ : KD) : Prop := ∃ z, d = .str z ∧ z.length ≤ sizeLine ∧ Φ S (.str (cutS z lo hi))
/-- tuple(x), x a list -/
def cTup (ds : List D) (S : Sto) (Φ : KD) : Prop := match ds with
  | [d] => ∃ xs, asQ S d = some xs ∧ Φ S (.tup xs)
  | _ => False
end DL
namespace DL
open PySem PySem.Spec PyProof.Rows L2
section
variable {K : PySem.W.Frag} {x y f : Str}
open He
def bExm (x y : Str) : FaX := fun K => decide (PySem.W.exmOne K (.ref (ga K x)) (.ref (ga K y)) = some true)
theorem bExm_ok (h : bExm x y K = true) : PySem.W.exmOne K (.ref (ga K x)) (.ref (ga K y)) = some true := of_decide_eq_true h
def bExT (x : Str) : FaX := fun K => (PySem.W.clsIn K (ga K x)).isSome && (eqO (PySem.W.findIn K (.ref (ga K x)) "__getattribute__") (some (some (.builtin "BaseException.__getattribute__"))) && (eqO (PySem.W.findIn K (.ref (ga K x)) "__getattr__") (some none) && (decide (PySem.W.subIn K (.ref (ga K x)) (.type "BaseException") = some true) &&
  (eqO (PySem.W.findIn K (.ref (ga K x)) "__class__") (some (some (.builtin "object.__class__"))) && (eqO (PySem.W.specialIn K (.builtin "object.__class__") "__get__") (some (some (.builtin "getset_descriptor.__get__"))) && (decide (PySem.W.takesIn K (.builtin "object.__class__") = some true) && decide (PySem.W.mroIn K (ga K x) (.type "object") = some true)))))))
theorem bExT_ok (h : bExT x K = true) : ExcT K (ga K x) := by
  obtain ⟨h1, h⟩ := ba h
  obtain ⟨h2, h⟩ := ba h
  obtain ⟨h3, h⟩ := ba h
  obtain ⟨h4, h⟩ := ba h
  obtain ⟨h5, h⟩ := ba h
  obtain ⟨h6, h⟩ := ba h
  obtain ⟨h7, h8⟩ := ba h
  exact ⟨h1, eqO_ok h2, eqO_ok h3, of_decide_eq_true h4, eqO_ok h5, eqO_ok h6, of_decide_eq_true h7, of_decide_eq_true h8⟩
/-- a text; a tuple of texts -/
def isS (s : Str) : Value → Bool
  | .str z _ => z == s
  | _ => false
def areS : List Str → List Value → Bool
  | [], [] => true
  | s :: r, u :: q => isS s u && areS r q
  | _, _ => false
def isT (K : PySem.W.Frag) (ss : List Str) : Value → Bool
  | .ref a => match K.lookup a with
    | some ⟨.type "tuple", _, .seq its _, _⟩ => decide (its.size ≤ 1000) && areS ss its.toList
    | _ => false
  | _ => false
end
end DL
namespace DL
open PySem PySem.Spec PyProof.Rows L2
section
variable {Γ : Gam} {S : Sto} {Φ : KD} {Ψ : KX}
theorem dMk0_e {C : Addr} : dMk0 C Γ S Φ Ψ = Φ (S ++ [.ins C []]) (.own S.length) := rfl
theorem sKeep_e {E : EdD} {Cs : List Addr} {i j : Nat} {T : TD} : sKeep Cs i j T E Γ S = T Γ S (fun S1 _ => E.nx Γ S1) (fun S1 x => x.cls ∈ Cs ∧ i < Γ.length ∧ E.nx (((Γ.set i (some (.exc x.cls x.fs))).set j (some (.exc x.cls x.fs))).set i none) S1) := rfl
theorem dCVal_e {tab : List (Addr × D)} {f : Str} {T : TD} : dCVal tab f T Γ S Φ Ψ = T Γ S (fun S1 d => ∃ C, d = .obj C ∧ ∃ y, (C, y) ∈ tab ∧ Φ S1 y) Ψ := rfl
theorem dConI_e {tab : List (Addr × D)} {f : Str} {T : TD} : dConI tab f T Γ S Φ Ψ = T Γ S (fun S1 d => ∃ C fs, asI S1 d = some (C, fs) ∧ fs.lookup f = none ∧ ∃ y, (C, y) ∈ tab ∧ Φ S1 y) Ψ := rfl
theorem cLen_s {z : Str} : cLen [.str z] S Φ = (z.length ≤ sizeLine ∧ Φ S (.int z.length)) := rfl
theorem dIx_s {z : Str} {i : Int} : dIx (.str z) (.int i) S Φ = (z.length ≤ sizeLine ∧ ∃ c, atI z.cps.toList i = some c ∧ Φ S (.str ⟨#[c]⟩)) := rfl
theorem dSlS_s {z : Str} {lo hi : Option Int} : dSlS (.str z) lo hi S Φ = (z.length ≤ sizeLine ∧ Φ S (.str (cutS z lo hi))) := propext ⟨fun ⟨_, e, h1, h2⟩ => by cases e; exact ⟨h1, h2⟩, fun h => ⟨z, rfl, h.1, h.2⟩⟩
theorem dAdd_s {a b : Str} : dAdd (.str a) (.str b) S Φ = (a.length + b.length ≤ sizeLine ∧ Φ S (.str (a ++ b))) := rfl
theorem cTup_l {ds : List D} : cTup [.lst ds] S Φ = Φ S (.tup ds) := propext ⟨fun ⟨_, e, h⟩ => by cases e; exact h, fun h => ⟨ds, rfl, h⟩⟩
end
end DL
namespace DL
open PySem PySem.Spec PyProof.Rows L2
section
variable {X : Cx} {W : WX} {o e : Expr} {to te : TE} {To Te : TD}
def dM1 (f : D → List D → Sto → KD → Prop) (To Te : TD) : TD := fun Γ S Φ Ψ => To Γ S (fun S1 d => (∃ a, d = .str a) ∧ Te Γ S1 (fun S2 y => f d [y] S2 Φ) Ψ) Ψ
def mSplit (d : D) (ds : List D) (S : Sto) (Φ : KD) : Prop := ∃ a b, d = .str a ∧ ds = [.str b] ∧ (b.length == 0) = false ∧ a.length + 2 ≤ sizeLine ∧ Φ S (.lst ((Txt.split a b).map D.str))
def cIntS (ds : List D) (S : Sto) (Φ : KD) : Prop := ∃ a n, ds = [.str a] ∧ PySem.intText? a = some n ∧ a.length ≤ 640 ∧ Φ S (.int n)
def cStrI (ds : List D) (S : Sto) (Φ : KD) : Prop := ∃ i : Int, ds = [.int i] ∧ i.natAbs.log2 < 1920 ∧ Φ S (.str (toString i))
def dSign (neg : Bool) (x y : D) (S : Sto) (Φ : KD) : Prop := ∃ (c : Nat) (z : Str), x = .str ⟨#[c]⟩ ∧ y = .str z ∧ Φ S (.bl (if neg then !decide (c ∈ z.cps.toList) else decide (c ∈ z.cps.toList)))
def signsD (z : Str) : List D := z.cps.toList.map fun c => D.str ⟨#[c]⟩
def iStrD (T : TD) : TId := fun Γ S Φ Ψ => T Γ S (fun S1 d => ∃ z, d = .str z ∧ Φ S1 (fun _ => some (signsD z))) Ψ
end
end DL
namespace DL
open PySem PySem.Spec PyProof.Rows L2
/-- B.__init__ is ValueError's -/
structure VeB (K : PySem.W.Frag) (B : Addr) : Prop where
  rd : PySem.W.readsIn K B (.type "type") = true
  ga : PySem.W.specialIn K (.ref B) "__getattribute__" = some (some (.builtin "type.__getattribute__"))
  at_ : PySem.W.findCls K (.ref B) (.type "type") "__init__" = some (.val (.builtin "ValueError.__init__"))
section
variable {X : Cx} {e : Expr} {es : List Expr} {ta : TA} {x : Str} {B : Addr} {p1 p2 pos : Pos}
theorem pe_vbinit {pl : Sem Bool} (c : VeB X.K B) (hg : Gl X x) (hm : X.mg x = some (.ref B)) (ha : PA X (e :: es) ta) (hdb : (x == ("__debug__" : Str)) = false := by decide)
    (hc : eval (.Call (.Attribute (.Name x p1) "__init__" p2) (e :: es) [] pos) X.env = (do
      let bv ← eval (.Name x p1) X.env
      standAt p2.atName
      let (g, fst) ← holding [bv] (getMethod bv "__init__" pl)
      callWith pos g fst (backTo pos (starEach (e :: es) X.env)) (backToKw pos (keywordEach [] X.env))) := by rfl)
    (he : starEach (e :: es) X.env = (false, eval e X.env) :: starEach es X.env := by rfl) (hpl : (backTo pos (starEach es X.env)).any (·.1) = false := by rfl) :
    PE X (.Call (.Attribute (.Name x p1) "__init__" p2) (e :: es) [] pos) (tVeI X.K ta) := by
  constructor
  intro pins s σ H Q I h
  refine PySem.W.methodCall_KW (ld_glob I hg hm ?_ hdb) hc
  refine PySem.W.method_cls I.kIn c.ga (PySem.W.cls_value I.kIn c.rd c.at_ (by decide +kernel) ?_)
  show wpAny _ _ (callWith pos (Value.builtin "ValueError.__init__") [] (backTo pos (starEach (e :: es) X.env)) []) _ _ _
  refine PyProof.Rows.callWith_method1 (thn (ha.run pos pins _ σ H _ (I.tok _) h) fun us s1 ⟨vs, H1, I1, r1, a, C, ws, ev, hl, T, ea, q⟩ => ?_) he hpl
  subst ev
  cases r1 with
  | @cons _ u0 _ ur ra rw' =>
    obtain rfl : u0 = Value.ref a := ra
    have n : ur.length ≤ sizeLine := by
      have := Paired.length rw'
      have := small (n := ws.length) (by omega)
      omega
    exact oinit_ok T I1 ea n fun s' J => ⟨.non, H1, J, rfl, q⟩
end
/-- what an __init__ that keeps one field promises -/
def spI (C : Addr) (f : Str) : Sp := fun vs H Q _ => ∃ a y, vs = [.ref a, y] ∧ H a = some (exo a C none) ∧ ∀ dx, H dx = none → dx ≠ a → Q .non (upd (upd H dx (exd dx [(f, y)])) a (exo a C (some dx)))
/-- the reading of: B.__init__(self, 'm'); self.f = at -/
abbrev tIni (K : PySem.W.Frag) (f m : Str) : TS := tSeq (tDrop (tVeI K (tCons (tVar 0) (tCons (tC (.str m)) tNil)))) (tOst K f (tVar 0) (tVar 1))
section
variable {P : Program} {w : World} {K : PySem.W.Frag} {mg : Str → Option Value} {base : Heap} {k : Nat} {f : Addr} {name qual at_ fld m : Str} {params : Arguments} {body : List Stmt} {scope : Scope} {dV kV doc pm cdv ct oc : Value} {an od : Option Addr} {osl : Array (Option Value)} {C : Addr} {CX : CXT}
theorem init_ok (T : OexC K C) (hf : PySem.W.findIn K (.ref C) fld = some none) (lk : K.lookup f = some ⟨oc, od, .func (PySem.W.fnOf name qual params body scope dV kV doc pm an cdv ct), osl⟩) (hcd : PySem.W.codeIn K cdv qual = true) (S : FnScope ["self", at_] ["self", at_] scope)
    (hbody : ∀ (A : Around) (outer : List Env) (s : Shared) (H : Hp) (E : XK), Room k (A.deeper (envOfC qual scope s.heap.objs.size f cdv)) → PSs (cxOf CX P w K mg base ["self", at_] qual scope f cdv A outer s H E) body (tIni K fld m)) :
    FnOk P w K mg base CX (k + 1) f (PySem.W.fnOf name qual params body scope dV kV doc pm an cdv ct) ["self", at_] (spI C fld) := by
  refine fn_of lk hcd S (fun vs H Q E ⟨a, y, e, _⟩ => by rw [e]; rfl) fun A outer s H vs Q E hr ⟨a, y, e, ha, q⟩ => ⟨_, hbody A outer s H E hr, ?_⟩
  subst e
  refine ⟨.ref a, rfl, a, C, [.str m], rfl, (show 1 ≤ 1000 by decide), T, ha, ?_⟩
  exact ⟨y, rfl, .ref a, rfl, a, C, rfl, T, hf, .inl ⟨ha, fun dx h1 h2 => q dx h1 h2⟩⟩
end
def sRaiseI (C : Addr) (f : Str) (T : TD) : TSd := fun D Γ S => T Γ S (fun S1 d => D.er S1 ⟨C, [(f, d)]⟩) D.er
section
variable {X : Cx} {W : WX} {x fld : Str} {C fI : Addr} {k : Nat} {fd : FuncData} {ps : List Str} {e : Expr} {te : TE} {Te : TD} {p pos pos2 : Pos} {P : Program} {wd : World}
theorem sem_raiseI {K : PySem.W.Frag} (he : SemE K W te Te) : SemS K W (fun _ σ H => tMkO C (spI C fld) [] (tCons te tNil) σ H fun cls d H' => W cls d σ H') (sRaiseI C fld Te) := fun D' Γ S σ w D g sl h r => by
  refine he Γ S _ _ σ w g sl h (r.er σ) _ fun y dy w1 S1 e1 g1 r1 h1 => ?_
  refine ⟨(show 1 ≤ 1000 by decide), fun a ha => ⟨a, y, rfl, upd_same, fun dx hdx ne => ?_⟩⟩
  have hd : w1.H dx = none := by rw [upd_ne ne] at hdx; exact hdx
  refine ⟨rfl, dx, [(fld, y)], upd_same, by rw [upd_ne ne, upd_same], hd, ?_⟩
  have eH : upd (del (upd (upd (upd w1.H a (exo a C none)) dx (exd dx [(fld, y)])) a (exo a C (some dx))) a) dx (.xd [(fld, y)]) = upd w1.H dx (.xd [(fld, y)]) := by
    funext b
    by_cases hb : b = dx
    · rw [hb, upd_same, upd_same]
    · rw [upd_ne hb, upd_ne hb]
      by_cases hba : b = a
      · rw [hba, del_same, ha]
      · rw [del_ne hba, upd_ne hba, upd_ne hb, upd_ne hba]
  rw [eH]
  have e2 : Ext w1 (w1.frz dx (.xd [(fld, y)])) := Ext.frz g1 _ hd
  exact r.er σ (.ref C) (some dx) ⟨C, [(fld, dy)]⟩ (w1.frz dx (.xd [(fld, y)])) S1 (e1.trans e2) (g1.frz _ hd) ⟨rfl, _, upd_same, .cons (e2.rp r1) .nil⟩ h1
theorem js_raiseI (hc : X.calm = true) (tk : Takes X W) (T : OexC X.K C) (iC : PySem.W.findIn X.K (.ref C) "__init__" = some (some (.ref fI))) (tI : PySem.W.typeIn X.K (.ref fI) = some (.type "function"))
    (F1 : FnOk X.prog X.w X.K X.mg X.base (L2.CX X.prog X.w) k fI fd ps (spI C fld)) (hr : Room (k + 1) X.A) (hb : Binds X.K fd ps []) (hg : Gl X x) (hm : X.mg x = some (.ref C)) (he : JE X W e te Te) (hdb : (x == ("__debug__" : Str)) = false := by decide)
    (hs : starEach [e] X.env = (false, eval e X.env) :: starEach [] X.env := by rfl) :
    JS X W (.Raise (some (.Call (.Name x p) [e] [] pos2)) none pos) (fun _ σ H => tMkO C (spI C fld) [] (tCons te tNil) σ H fun cls d H' => W cls d σ H') (sRaiseI C fld Te) :=
  ⟨ps_raise hc tk (pmk_oex (ds := []) T iC tI F1 hr hb .nil (passes_call tk fun _ _ _ _ z => z.elim) hg hm (pa_cons he.pe pa_nil hs) hdb hs), sem_raiseI he.sem⟩
end
end DL
namespace DL
open PySem PySem.Spec PyProof.Rows L2
structure XFldF (K : PySem.W.Frag) (D : Addr) (f : Str) : Prop where
  t : ExcT K D
  hd : PySem.W.hasDictIn K D = true
  no : PySem.W.findIn K (.ref D) f = some none
def tXFld (K : PySem.W.Frag) (ta : TE) (f : Str) : TE := fun σ H Q => ta σ H fun x H1 => ∃ (a D : Addr) (oe : Obj) (u : HO) (dx : Addr) (vs : List (Str × V)) (v : V), x = .ref a ∧ H1 a = some (.frz oe u) ∧ oe.cls = .ref D ∧ (∃ ws, oe.data = .fields ws) ∧ oe.dict = some dx ∧ H1 dx = some (.xd vs) ∧ XFldF K D f ∧ vs.lookup f = some v ∧ Q v H1
section
variable {X : Cx} {W : WX} {e : Expr} {te : TE} {Te : TD} {f : Str} {pos : Pos}
theorem pe_xfld (he : PE X e te) (hb : attributeBase e f X.env (eval e X.env) = eval e X.env) : PE X (.Attribute e f pos) (tXFld X.K te f) := by
  constructor
  intro pins s σ H Q I h
  refine attr_of hb (thn (he.run pins s σ H _ I h) fun u1 s1 ⟨x, H1, I1, rx, a, D, oe, u, dx, vs, v, ex, h1, h2, ⟨ws, h3⟩, h4, h5, F, l, q⟩ => ?_)
  subst ex
  obtain rfl : u1 = Value.ref a := rx
  have ga : s1.heap.get? a = some oe := (show ObjOk X.prog X.w H1 s1.heap a (.frz oe u) from I1.hok a _ h1).1
  obtain ⟨mA, n, r⟩ := (show ObjOk X.prog X.w H1 s1.heap dx (.xd vs) from I1.hok dx _ h5)
  obtain ⟨od, g2, look⟩ := lookIn_ns n
  have nc : PySem.W.notCls oe = true := by unfold PySem.W.notCls; rw [h3]
  have J : PySem.W.InstAt s1.heap a oe D (some od) := ⟨ga, h2, nc, by rw [h4]; exact g2⟩
  have ro := r f
  rw [l] at ro
  obtain ⟨y, e1, ry⟩ := RelO.some_of ro
  have lk := look f
  rw [e1] at lk
  exact PySem.HandSPX.exc_get I1.kIn J F.t.ga F.t.gt F.t.sub (PySem.W.findObj_own F.hd F.no rfl lk) (handed_of ry) ⟨v, H1, I1.tok _, ry, q⟩
/-- x.f, x a kept exception of one of the classes Cs -/
def dXFld (Cs : List Addr) (f : Str) (T : TD) : TD := fun Γ S Φ Ψ => T Γ S (fun S1 d => ∃ D fs y, d = .exc D fs ∧ D ∈ Cs ∧ fs.lookup f = some y ∧ Φ S1 y) Ψ
theorem je_xfld {Cs : List Addr} (c : ∀ D ∈ Cs, XFldF X.K D f) (he : JE X W e te Te) (hb : attributeBase e f X.env (eval e X.env) = eval e X.env := by rfl) : JE X W (.Attribute e f pos) (tXFld X.K te f) (dXFld Cs f Te) :=
  ⟨pe_xfld he.pe hb, fun Γ S Φ Ψ σ w g sl h hx Q q => he.sem Γ S _ Ψ σ w g sl h hx _ fun v d w1 S1 e1 g1 r1 ⟨D, fs, y, ed, hD, l, h1⟩ => by
    subst ed
    cases r1 with
    | exc0 => cases l
    | excD k1 k2 k0 k3 k4 k5 =>
      obtain ⟨z, l2, rz⟩ := rf_some k5 l
      exact ⟨_, D, _, _, _, _, z, rfl, g1.sub _ _ k1, k2, k0, k3, g1.sub _ _ k4, c D hD, l2, q z y w1 S1 e1 g1 rz h1⟩⟩
end
end DL
namespace DL
open PySem PySem.Spec PyProof.Rows L2
section
variable {K : PySem.W.Frag} {C : Addr} {x y f : Str}
open He
def oexIn (K : PySem.W.Frag) (C : Addr) : Bool := match K.lookup C with
  | some ⟨.type "type", _, .cls cd, sl⟩ => (match cd.mro, sl.toList with
    | .ref D :: bm, [_, _, _, _, some (.builtin n), _] => decide (D = C) && (decide (n = "ValueError.__new__") && (!cd.hasDel && (cd.hasDict && PySem.HandSPX.refsVE bm)))
    | _, _ => false)
  | _ => false
theorem oexIn_ok (h : oexIn K C = true) : ∃ nm q N bs bm sn sub ab col dd k0 k1 k2 k3 k5, K.lookup C = some (excClassObj nm q C N bs bm true sn sub ab col dd k0 k1 k2 k3 k5 "ValueError.__new__") ∧ PySem.HandSPX.refsVE bm = true := by
  unfold oexIn at h
  split at h
  · rename_i dd cd sl e
    split at h
    · rename_i D bm k0 k1 k2 k3 n k5 e1 e2
      obtain ⟨h1, h⟩ := ba h
      obtain ⟨h2, h⟩ := ba h
      obtain ⟨h3, h⟩ := ba h
      obtain ⟨h4, h5⟩ := ba h
      have i1 := of_decide_eq_true h1
      have i2 := of_decide_eq_true h2
      have i3 : cd.hasDel = false := by simpa using h3
      clear h1 h2 h3
      obtain ⟨a1, a2, a3, a4, a5, a6, a7, a8, a9, a10, a11⟩ := cd
      dsimp only at e1 i3 h4
      subst e1 i3 h4 i1 i2
      obtain ⟨l⟩ := sl
      dsimp only at e2
      subst e2
      exact ⟨_, _, _, _, bm, _, _, _, _, _, _, _, _, _, _, e, h5⟩
    · cases h
  · cases h
def bOex (x : Str) : FaX := fun K => oexIn K (ga K x) && (eqO (PySem.W.findIn K (.ref (ga K x)) "__setattr__") (some (some (.builtin "object.__setattr__"))) && (decide (PySem.W.subIn K (.ref (ga K x)) (.type "BaseException") = some true) && (decide (PySem.W.typeIn K (.ref (ga K x)) = some (.type "type")) && PySem.W.keepIn K (.ref (ga K x)))))
theorem bOex_ok (h : bOex x K = true) : OexC K (ga K x) := by
  obtain ⟨h1, h⟩ := ba h
  obtain ⟨h2, h⟩ := ba h
  obtain ⟨h3, h⟩ := ba h
  obtain ⟨h4, h5⟩ := ba h
  exact ⟨oexIn_ok h1, eqO_ok h2, of_decide_eq_true h3, of_decide_eq_true h4, h5⟩
def bVeB (x : Str) : FaX := fun K => bCRd x K && (match PySem.W.findCls K (.ref (ga K x)) (.type "type") "__init__" with
  | some (.val (.builtin n)) => decide (n = "ValueError.__init__")
  | _ => false)
theorem bVeB_ok (h : bVeB x K = true) : VeB K (ga K x) := by
  obtain ⟨h1, h2⟩ := ba h
  obtain ⟨r1, r2⟩ := bCRd_ok h1
  split at h2
  · rename_i n e
    rw [of_decide_eq_true h2] at e
    exact ⟨r1, r2, e⟩
  · cases h2
def bXFld (x f : Str) : FaX := fun K => bExT x K && (PySem.W.hasDictIn K (ga K x) && eqO (PySem.W.findIn K (.ref (ga K x)) f) (some none))
theorem bXFld_ok (h : bXFld x f K = true) : XFldF K (ga K x) f := ⟨bExT_ok (ba h).1, (ba (ba h).2).1, eqO_ok (ba (ba h).2).2⟩
end
/-- C(e), C's own __init__ keeping the field fld -/
structure XIni (P : Program) (wd : World) (K : PySem.W.Frag) (mg : Str → Option Value) (base : Heap) (x : Str) (C : Addr) (k : Nat) (fld : Str) : Prop where
  t : OexC K C
  g : mg x = some (.ref C)
  ex : ∃ fI fd ps, PySem.W.findIn K (.ref C) "__init__" = some (some (.ref fI)) ∧ PySem.W.typeIn K (.ref fI) = some (.type "function") ∧ FnOk P wd K mg base (L2.CX P wd) k fI fd ps (spI C fld) ∧ Binds K fd ps []
theorem js_raiseX {X : Cx} {W : WX} {x fld : Str} {C : Addr} {k : Nat} {e : Expr} {te : TE} {Te : TD} {p pos pos2 : Pos} (c : XIni X.prog X.w X.K X.mg X.base x C k fld) (hc : X.calm = true) (tk : Takes X W) (hr : Room (k + 1) X.A) (hg : Gl X x) (he : JE X W e te Te) (hdb : (x == ("__debug__" : Str)) = false := by decide)
    (hs : starEach [e] X.env = (false, eval e X.env) :: starEach [] X.env := by rfl) :
    JS X W (.Raise (some (.Call (.Name x p) [e] [] pos2)) none pos) (fun _ σ H => tMkO C (spI C fld) [] (tCons te tNil) σ H fun cls d H' => W cls d σ H') (sRaiseI C fld Te) := by
  obtain ⟨fI, fd, ps, h1, h2, h3, h4⟩ := c.ex
  exact js_raiseI hc tk c.t h1 h2 h3 hr h4 hg c.g he hdb hs
theorem sRaiseI_e {C : Addr} {f : Str} {T : TD} {D : EdD} {Γ : Gam} {S : Sto} : sRaiseI C f T D Γ S = T Γ S (fun S1 d => D.er S1 ⟨C, [(f, d)]⟩) D.er := rfl
end DL
namespace DL
open PySem PySem.Spec PyProof.Rows L2
def rCntF (K : PySem.W.Frag) : V → List V → Hp → VK → Prop := fun x xs H Q => ∃ (p : Addr) (ys : List V) (y : V), x = .ref p ∧ xs = [y] ∧ SqL K H p ys ∧ flatV y = true ∧ ys.all flatV = true ∧ Q (.int (ys.countP fun z => eqV z y : Nat)) H
theorem count_eqU {x : V} : ∀ {xs : List V} {us : List Value}, Vals xs us → xs.all flatV = true → us.countP (eqU x) = xs.countP fun y => eqV y x
  | _, _, .nil, _ => rfl
  | _, _, .cons r t, f => by
    rw [List.all_cons, Bool.and_eq_true] at f
    rw [List.countP_cons, List.countP_cons, eqU_of r f.1, count_eqU t f.2]
theorem mt_cntF {X : Cx} : MtR X "list.count" (rCntF X.K) := by
  intro pins s σ H x xs v us Q I rx rxs h
  obtain ⟨p, ys, y, rfl, rfl, hs, fy, fys, q⟩ := h
  cases rx
  obtain ⟨uy, rfl, ry⟩ := rxs.one
  obtain ⟨its, rv, ⟨⟨cls, dd, data, sl⟩, n, ho, hc, hdn, hd⟩, hlen⟩ := I.list hs
  simp only at hc hd
  subst hc hd
  refine call_meets PySem.F.slot_list_count ⟨_, ho, rfl⟩ PySem.F.entry_list_count (PySem.F.args_list_count_2 _ _)
    (SeqAt.list_countAt p its.toArray n dd sl uy (eqU y)) ⟨ho, fun u' hu' => mem_eqAt ry fy rv fys u' (by simpa using hu'), ?_⟩
  have ec : its.toArray.toList.countP (eqU y) = ys.countP fun z => eqV z y := count_eqU rv fys
  refine ⟨.int (ys.countP fun z => eqV z y : Nat), H, I.tok _, ⟨s.toks, ?_⟩, q⟩
  show Value.int ((its.toArray.toList.countP (eqU y) : Nat) : Int) s.toks = Value.int ((ys.countP fun z => eqV z y : Nat) : Int) s.toks
  rw [ec]
def mCnt (d : D) (ds : List D) (S : Sto) (Φ : KD) : Prop := ∃ xs y, asQ S d = some xs ∧ ds = [y] ∧ flatD y = true ∧ xs.all flatD = true ∧ Φ S (.int (xs.countP fun z => eqD z y : Nat))
theorem count_of {K : PySem.W.Frag} {w : Hs} {x : V} {dx : D} (rx : Rv K w x dx) (hx : flatD dx = true) : ∀ {vs : List V} {ds : List D}, Ra K w vs ds → ds.all flatD = true → (vs.countP fun z => eqV z x) = ds.countP fun z => eqD z dx
  | _, _, .nil, _ => rfl
  | _, _, .cons r t, h => by
    rw [List.all_cons, Bool.and_eq_true] at h
    rw [List.countP_cons, List.countP_cons, count_of rx hx t h.2, eq_of r rx h.1 hx]
theorem mtd_cnt {K : PySem.W.Frag} : MtD K (rCntF K) mCnt := fun w S x vs d ds Φ Q g r1 r2 ⟨xs, y, e, ed, h1, h2, h⟩ q => by
  subst ed
  obtain ⟨a, ys, rfl, hs, ra⟩ := asQ_at g r1 e
  obtain ⟨v, rfl, rv⟩ := one_of r2
  exact ⟨a, ys, v, rfl, rfl, hs, flat_of rv h1, flats_of ra h2, by rw [count_of rv h1 ra h2]; exact q _ _ w S (Ext.refl w) g (.int _) h⟩
theorem RpA.dropLast {K : PySem.W.Frag} {F : Hp} {al : List Addr} {vs : List V} {ds : List D} (r : RpA K F al vs ds) : RpA K F al vs.dropLast ds.dropLast := by
  rw [List.dropLast_eq_take, List.dropLast_eq_take, r.length]
  exact r.take _
def mPop (d : D) (ds : List D) (S : Sto) (Φ : KD) : Prop := ∃ h xs y, d = .own h ∧ ds = [] ∧ S[h]? = some (.lst xs) ∧ xs[xs.length - 1]? = some y ∧ Φ (S.set h (.lst xs.dropLast)) y
section
variable {X : Cx} {W : WX} {o e : Expr} {to te : TE} {To Te : TD}
def dM0 (f : D → List D → Sto → KD → Prop) (To : TD) : TD := fun Γ S Φ Ψ => To Γ S (fun S1 d => (∃ a, d = .str a) ∧ f d [] S1 Φ) Ψ
def mUpper (d : D) (ds : List D) (S : Sto) (Φ : KD) : Prop := ∃ a, d = .str a ∧ ds = [] ∧ a.length ≤ 5592405 ∧ Φ S (.str (Txt.upper a))
def dRev (T : TD) : TD := fun Γ S Φ Ψ => T Γ S (fun S1 d => ∃ ds, asQ S1 d = some ds ∧ Φ S1 (.lst ds.reverse)) Ψ
end
/-- a new list in a cell -/
def dAddO (x y : D) (S : Sto) (Φ : KD) : Prop := ∃ xs ys, asL S x = some xs ∧ asL S y = some ys ∧ xs.length + ys.length ≤ sizeLine ∧ Φ (S ++ [.lst (xs ++ ys)]) (.own S.length)
def plainD : D → D → Bool
  | .str _, .str _ | .int _, .int _ | .non, .non | .int _, .non | .non, .int _ | .str _, .non | .non, .str _ | .int _, .str _ | .str _, .int _ | .bl _, .bl _ => true
  | _, _ => false
def dEqF (x y : D) (S : Sto) (Φ : KD) : Prop := plainD x y = true ∧ Φ S (.bl (eqD x y))
def dNeF (x y : D) (S : Sto) (Φ : KD) : Prop := plainD x y = true ∧ Φ S (.bl (!eqD x y))
theorem opd_eqF {K : PySem.W.Frag} : OpD K rEq dEqF := fun w S x y u v Φ Q g r1 r2 ⟨hp, h⟩ q => by
  cases u <;> cases v <;> first | (exact absurd hp Bool.false_ne_true) | (cases r1; cases r2; exact ⟨by rfl, by
    first | (rw [dec_str]; exact q _ _ w S (Ext.refl w) g (.bl _) h) | (rw [dec_int]; exact q _ _ w S (Ext.refl w) g (.bl _) h) | (rw [dec_bl]; exact q _ _ w S (Ext.refl w) g (.bl _) h) | (simp only [decide_true, decide_false, reduceCtorEq]; exact q _ _ w S (Ext.refl w) g (.bl _) h)⟩)
theorem opd_neF {K : PySem.W.Frag} : OpD K rNe dNeF := fun w S x y u v Φ Q g r1 r2 ⟨hp, h⟩ q => by
  cases u <;> cases v <;> first | (exact absurd hp Bool.false_ne_true) | (cases r1; cases r2; exact ⟨by rfl, by
    first | (rw [dec_str]; exact q _ _ w S (Ext.refl w) g (.bl _) h) | (rw [dec_int]; exact q _ _ w S (Ext.refl w) g (.bl _) h) | (rw [dec_bl]; exact q _ _ w S (Ext.refl w) g (.bl _) h) | (simp only [decide_true, decide_false, reduceCtorEq]; exact q _ _ w S (Ext.refl w) g (.bl _) h)⟩)
section
variable {Γ : Gam} {S : Sto} {Φ : KD} {Ψ : KX}
theorem dM1_e {f : D → List D → Sto → KD → Prop} {To Te : TD} : dM1 f To Te Γ S Φ Ψ = To Γ S (fun S1 d => (∃ a, d = .str a) ∧ Te Γ S1 (fun S2 y => f d [y] S2 Φ) Ψ) Ψ := rfl
theorem dM0_e {f : D → List D → Sto → KD → Prop} {To : TD} : dM0 f To Γ S Φ Ψ = To Γ S (fun S1 d => (∃ a, d = .str a) ∧ f d [] S1 Φ) Ψ := rfl
theorem dRev_e {T : TD} : dRev T Γ S Φ Ψ = T Γ S (fun S1 d => ∃ ds, asQ S1 d = some ds ∧ Φ S1 (.lst ds.reverse)) Ψ := rfl
theorem mSplit_s {a b : Str} : mSplit (.str a) [.str b] S Φ = ((b.length == 0) = false ∧ a.length + 2 ≤ sizeLine ∧ Φ S (.lst ((Txt.split a b).map D.str))) := propext ⟨fun ⟨_, _, e1, e2, h⟩ => by cases e1; cases e2; exact h, fun h => ⟨a, b, rfl, rfl, h⟩⟩
theorem mUpper_s {a : Str} : mUpper (.str a) [] S Φ = (a.length ≤ 5592405 ∧ Φ S (.str (Txt.upper a))) := propext ⟨fun ⟨_, e1, _, h⟩ => by cases e1; exact h, fun h => ⟨a, rfl, rfl, h⟩⟩
theorem exZ {a : Str} {P : Str → Prop} : (∃ z, D.str a = .str z ∧ P z) ↔ P a := ⟨fun ⟨_, e, h⟩ => by cases e; exact h, fun h => ⟨a, rfl, h⟩⟩
theorem exStr {a : Str} : (∃ z, D.str a = .str z) = True := eq_true ⟨a, rfl⟩
theorem cStrI_i {i : Int} : cStrI [.int i] S Φ = (i.natAbs.log2 < 1920 ∧ Φ S (.str (toString i))) := propext ⟨fun ⟨_, e, h⟩ => by cases e; exact h, fun h => ⟨i, rfl, h⟩⟩
theorem cIntS_s {a : Str} : cIntS [.str a] S Φ = (∃ n, PySem.intText? a = some n ∧ a.length ≤ 640 ∧ Φ S (.int n)) := propext ⟨fun ⟨_, n, e, h⟩ => by cases e; exact ⟨n, h⟩, fun ⟨n, h⟩ => ⟨a, n, rfl, h⟩⟩
theorem iStrD_e {T : TD} {Ω : Sto → (Sto → Option (List D)) → Prop} : iStrD T Γ S Ω Ψ = T Γ S (fun S1 d => ∃ z, d = .str z ∧ Ω S1 (fun _ => some (signsD z))) Ψ := rfl
theorem dEqF_s {a b : Str} : dEqF (.str a) (.str b) S Φ = Φ S (.bl (a == b)) := propext ⟨fun h => h.2, fun h => ⟨rfl, h⟩⟩
theorem dNeF_s {a b : Str} : dNeF (.str a) (.str b) S Φ = Φ S (.bl (!(a == b))) := propext ⟨fun h => h.2, fun h => ⟨rfl, h⟩⟩
theorem dEqF_i {a b : Int} : dEqF (.int a) (.int b) S Φ = Φ S (.bl (a == b)) := propext ⟨fun h => h.2, fun h => ⟨rfl, h⟩⟩
theorem dNeF_i {a b : Int} : dNeF (.int a) (.int b) S Φ = Φ S (.bl (!(a == b))) := propext ⟨fun h => h.2, fun h => ⟨rfl, h⟩⟩
theorem dXFld_e {Cs : List Addr} {f : Str} {T : TD} : dXFld Cs f T Γ S Φ Ψ = T Γ S (fun S1 d => ∃ D fs y, d = .exc D fs ∧ D ∈ Cs ∧ fs.lookup f = some y ∧ Φ S1 y) Ψ := rfl
theorem mPop_e {h : Nat} : mPop (.own h) [] S Φ = (∃ xs y, S[h]? = some (.lst xs) ∧ xs[xs.length - 1]? = some y ∧ Φ (S.set h (.lst xs.dropLast)) y) := propext ⟨fun ⟨_, xs, y, e, _, h⟩ => by cases e; exact ⟨xs, y, h⟩, fun ⟨xs, y, h'⟩ => ⟨h, xs, y, rfl, rfl, h'⟩⟩
theorem dAddO_l {ds es : List D} : dAddO (.lst ds) (.lst es) S Φ = (ds.length + es.length ≤ sizeLine ∧ Φ (S ++ [.lst (ds ++ es)]) (.own S.length)) := propext ⟨fun ⟨_, _, e1, e2, h⟩ => by cases e1; cases e2; exact h, fun h => ⟨ds, es, rfl, rfl, h⟩⟩
theorem dAddO_o {h : Nat} {es : List D} : dAddO (.own h) (.lst es) S Φ = (∃ ds, S[h]? = some (.lst ds) ∧ ds.length + es.length ≤ sizeLine ∧ Φ (S ++ [.lst (ds ++ es)]) (.own S.length)) := propext ⟨fun ⟨ds, _, e1, e2, h⟩ => by cases e2; exact ⟨ds, asL_own e1, h⟩, fun ⟨ds, e, h'⟩ => ⟨ds, es, asL_at' e, rfl, h'⟩⟩
theorem dSign_s {neg : Bool} {c : Nat} {z : Str} : dSign neg (.str ⟨#[c]⟩) (.str z) S Φ = Φ S (.bl (if neg then !decide (c ∈ z.cps.toList) else decide (c ∈ z.cps.toList))) := propext ⟨fun ⟨_, _, e1, e2, h⟩ => by cases e1; cases e2; exact h, fun h => ⟨c, z, rfl, rfl, h⟩⟩
end
end DL
namespace DL
open PySem PySem.Spec PyProof.Rows L2
section
variable {Γ : Gam} {S : Sto} {Φ : KD} {Ψ : KX} {P : Gam → Sto → Prop}
theorem dv0 {d : D} : dVar 0 (some d :: Γ) S Φ Ψ = Φ S d := propext ⟨fun ⟨_, e, h⟩ => by cases e; exact h, fun h => ⟨d, rfl, h⟩⟩
theorem nm0 {o : Option D} {d : D} : nmG 0 d (o :: Γ) S P = P (some d :: Γ) S := rfl
theorem dv1 {a0 : Option D} {d : D} : dVar 1 (a0 :: some d :: Γ) S Φ Ψ = Φ S d := propext ⟨fun ⟨_, e, h⟩ => by cases e; exact h, fun h => ⟨d, rfl, h⟩⟩
theorem nm1 {a0 : Option D} {o : Option D} {d : D} : nmG 1 d (a0 :: o :: Γ) S P = P (a0 :: some d :: Γ) S := rfl
theorem dv2 {a0 a1 : Option D} {d : D} : dVar 2 (a0 :: a1 :: some d :: Γ) S Φ Ψ = Φ S d := propext ⟨fun ⟨_, e, h⟩ => by cases e; exact h, fun h => ⟨d, rfl, h⟩⟩
theorem nm2 {a0 a1 : Option D} {o : Option D} {d : D} : nmG 2 d (a0 :: a1 :: o :: Γ) S P = P (a0 :: a1 :: some d :: Γ) S := rfl
theorem dv3 {a0 a1 a2 : Option D} {d : D} : dVar 3 (a0 :: a1 :: a2 :: some d :: Γ) S Φ Ψ = Φ S d := propext ⟨fun ⟨_, e, h⟩ => by cases e; exact h, fun h => ⟨d, rfl, h⟩⟩
theorem nm3 {a0 a1 a2 : Option D} {o : Option D} {d : D} : nmG 3 d (a0 :: a1 :: a2 :: o :: Γ) S P = P (a0 :: a1 :: a2 :: some d :: Γ) S := rfl
theorem dv4 {a0 a1 a2 a3 : Option D} {d : D} : dVar 4 (a0 :: a1 :: a2 :: a3 :: some d :: Γ) S Φ Ψ = Φ S d := propext ⟨fun ⟨_, e, h⟩ => by cases e; exact h, fun h => ⟨d, rfl, h⟩⟩
theorem nm4 {a0 a1 a2 a3 : Option D} {o : Option D} {d : D} : nmG 4 d (a0 :: a1 :: a2 :: a3 :: o :: Γ) S P = P (a0 :: a1 :: a2 :: a3 :: some d :: Γ) S := rfl
theorem dv5 {a0 a1 a2 a3 a4 : Option D} {d : D} : dVar 5 (a0 :: a1 :: a2 :: a3 :: a4 :: some d :: Γ) S Φ Ψ = Φ S d := propext ⟨fun ⟨_, e, h⟩ => by cases e; exact h, fun h => ⟨d, rfl, h⟩⟩
theorem nm5 {a0 a1 a2 a3 a4 : Option D} {o : Option D} {d : D} : nmG 5 d (a0 :: a1 :: a2 :: a3 :: a4 :: o :: Γ) S P = P (a0 :: a1 :: a2 :: a3 :: a4 :: some d :: Γ) S := rfl
theorem dv6 {a0 a1 a2 a3 a4 a5 : Option D} {d : D} : dVar 6 (a0 :: a1 :: a2 :: a3 :: a4 :: a5 :: some d :: Γ) S Φ Ψ = Φ S d := propext ⟨fun ⟨_, e, h⟩ => by cases e; exact h, fun h => ⟨d, rfl, h⟩⟩
theorem nm6 {a0 a1 a2 a3 a4 a5 : Option D} {o : Option D} {d : D} : nmG 6 d (a0 :: a1 :: a2 :: a3 :: a4 :: a5 :: o :: Γ) S P = P (a0 :: a1 :: a2 :: a3 :: a4 :: a5 :: some d :: Γ) S := rfl
theorem dv7 {a0 a1 a2 a3 a4 a5 a6 : Option D} {d : D} : dVar 7 (a0 :: a1 :: a2 :: a3 :: a4 :: a5 :: a6 :: some d :: Γ) S Φ Ψ = Φ S d := propext ⟨fun ⟨_, e, h⟩ => by cases e; exact h, fun h => ⟨d, rfl, h⟩⟩
theorem nm7 {a0 a1 a2 a3 a4 a5 a6 : Option D} {o : Option D} {d : D} : nmG 7 d (a0 :: a1 :: a2 :: a3 :: a4 :: a5 :: a6 :: o :: Γ) S P = P (a0 :: a1 :: a2 :: a3 :: a4 :: a5 :: a6 :: some d :: Γ) S := rfl
theorem dv8 {a0 a1 a2 a3 a4 a5 a6 a7 : Option D} {d : D} : dVar 8 (a0 :: a1 :: a2 :: a3 :: a4 :: a5 :: a6 :: a7 :: some d :: Γ) S Φ Ψ = Φ S d := propext ⟨fun ⟨_, e, h⟩ => by cases e; exact h, fun h => ⟨d, rfl, h⟩⟩
theorem nm8 {a0 a1 a2 a3 a4 a5 a6 a7 : Option D} {o : Option D} {d : D} : nmG 8 d (a0 :: a1 :: a2 :: a3 :: a4 :: a5 :: a6 :: a7 :: o :: Γ) S P = P (a0 :: a1 :: a2 :: a3 :: a4 :: a5 :: a6 :: a7 :: some d :: Γ) S := rfl
theorem dv9 {a0 a1 a2 a3 a4 a5 a6 a7 a8 : Option D} {d : D} : dVar 9 (a0 :: a1 :: a2 :: a3 :: a4 :: a5 :: a6 :: a7 :: a8 :: some d :: Γ) S Φ Ψ = Φ S d := propext ⟨fun ⟨_, e, h⟩ => by cases e; exact h, fun h => ⟨d, rfl, h⟩⟩
theorem nm9 {a0 a1 a2 a3 a4 a5 a6 a7 a8 : Option D} {o : Option D} {d : D} : nmG 9 d (a0 :: a1 :: a2 :: a3 :: a4 :: a5 :: a6 :: a7 :: a8 :: o :: Γ) S P = P (a0 :: a1 :: a2 :: a3 :: a4 :: a5 :: a6 :: a7 :: a8 :: some d :: Γ) S := rfl
theorem dv10 {a0 a1 a2 a3 a4 a5 a6 a7 a8 a9 : Option D} {d : D} : dVar 10 (a0 :: a1 :: a2 :: a3 :: a4 :: a5 :: a6 :: a7 :: a8 :: a9 :: some d :: Γ) S Φ Ψ = Φ S d := propext ⟨fun ⟨_, e, h⟩ => by cases e; exact h, fun h => ⟨d, rfl, h⟩⟩
theorem nm10 {a0 a1 a2 a3 a4 a5 a6 a7 a8 a9 : Option D} {o : Option D} {d : D} : nmG 10 d (a0 :: a1 :: a2 :: a3 :: a4 :: a5 :: a6 :: a7 :: a8 :: a9 :: o :: Γ) S P = P (a0 :: a1 :: a2 :: a3 :: a4 :: a5 :: a6 :: a7 :: a8 :: a9 :: some d :: Γ) S := rfl
theorem dv11 {a0 a1 a2 a3 a4 a5 a6 a7 a8 a9 a10 : Option D} {d : D} : dVar 11 (a0 :: a1 :: a2 :: a3 :: a4 :: a5 :: a6 :: a7 :: a8 :: a9 :: a10 :: some d :: Γ) S Φ Ψ = Φ S d := propext ⟨fun ⟨_, e, h⟩ => by cases e; exact h, fun h => ⟨d, rfl, h⟩⟩
theorem nm11 {a0 a1 a2 a3 a4 a5 a6 a7 a8 a9 a10 : Option D} {o : Option D} {d : D} : nmG 11 d (a0 :: a1 :: a2 :: a3 :: a4 :: a5 :: a6 :: a7 :: a8 :: a9 :: a10 :: o :: Γ) S P = P (a0 :: a1 :: a2 :: a3 :: a4 :: a5 :: a6 :: a7 :: a8 :: a9 :: a10 :: some d :: Γ) S := rfl
theorem dv12 {a0 a1 a2 a3 a4 a5 a6 a7 a8 a9 a10 a11 : Option D} {d : D} : dVar 12 (a0 :: a1 :: a2 :: a3 :: a4 :: a5 :: a6 :: a7 :: a8 :: a9 :: a10 :: a11 :: some d :: Γ) S Φ Ψ = Φ S d := propext ⟨fun ⟨_, e, h⟩ => by cases e; exact h, fun h => ⟨d, rfl, h⟩⟩
theorem nm12 {a0 a1 a2 a3 a4 a5 a6 a7 a8 a9 a10 a11 : Option D} {o : Option D} {d : D} : nmG 12 d (a0 :: a1 :: a2 :: a3 :: a4 :: a5 :: a6 :: a7 :: a8 :: a9 :: a10 :: a11 :: o :: Γ) S P = P (a0 :: a1 :: a2 :: a3 :: a4 :: a5 :: a6 :: a7 :: a8 :: a9 :: a10 :: a11 :: some d :: Γ) S := rfl
theorem dv13 {a0 a1 a2 a3 a4 a5 a6 a7 a8 a9 a10 a11 a12 : Option D} {d : D} : dVar 13 (a0 :: a1 :: a2 :: a3 :: a4 :: a5 :: a6 :: a7 :: a8 :: a9 :: a10 :: a11 :: a12 :: some d :: Γ) S Φ Ψ = Φ S d := propext ⟨fun ⟨_, e, h⟩ => by cases e; exact h, fun h => ⟨d, rfl, h⟩⟩
theorem nm13 {a0 a1 a2 a3 a4 a5 a6 a7 a8 a9 a10 a11 a12 : Option D} {o : Option D} {d : D} : nmG 13 d (a0 :: a1 :: a2 :: a3 :: a4 :: a5 :: a6 :: a7 :: a8 :: a9 :: a10 :: a11 :: a12 :: o :: Γ) S P = P (a0 :: a1 :: a2 :: a3 :: a4 :: a5 :: a6 :: a7 :: a8 :: a9 :: a10 :: a11 :: a12 :: some d :: Γ) S := rfl
theorem dv14 {a0 a1 a2 a3 a4 a5 a6 a7 a8 a9 a10 a11 a12 a13 : Option D} {d : D} : dVar 14 (a0 :: a1 :: a2 :: a3 :: a4 :: a5 :: a6 :: a7 :: a8 :: a9 :: a10 :: a11 :: a12 :: a13 :: some d :: Γ) S Φ Ψ = Φ S d := propext ⟨fun ⟨_, e, h⟩ => by cases e; exact h, fun h => ⟨d, rfl, h⟩⟩
theorem nm14 {a0 a1 a2 a3 a4 a5 a6 a7 a8 a9 a10 a11 a12 a13 : Option D} {o : Option D} {d : D} : nmG 14 d (a0 :: a1 :: a2 :: a3 :: a4 :: a5 :: a6 :: a7 :: a8 :: a9 :: a10 :: a11 :: a12 :: a13 :: o :: Γ) S P = P (a0 :: a1 :: a2 :: a3 :: a4 :: a5 :: a6 :: a7 :: a8 :: a9 :: a10 :: a11 :: a12 :: a13 :: some d :: Γ) S := rfl
theorem dv15 {a0 a1 a2 a3 a4 a5 a6 a7 a8 a9 a10 a11 a12 a13 a14 : Option D} {d : D} : dVar 15 (a0 :: a1 :: a2 :: a3 :: a4 :: a5 :: a6 :: a7 :: a8 :: a9 :: a10 :: a11 :: a12 :: a13 :: a14 :: some d :: Γ) S Φ Ψ = Φ S d := propext ⟨fun ⟨_, e, h⟩ => by cases e; exact h, fun h => ⟨d, rfl, h⟩⟩
theorem nm15 {a0 a1 a2 a3 a4 a5 a6 a7 a8 a9 a10 a11 a12 a13 a14 : Option D} {o : Option D} {d : D} : nmG 15 d (a0 :: a1 :: a2 :: a3 :: a4 :: a5 :: a6 :: a7 :: a8 :: a9 :: a10 :: a11 :: a12 :: a13 :: a14 :: o :: Γ) S P = P (a0 :: a1 :: a2 :: a3 :: a4 :: a5 :: a6 :: a7 :: a8 :: a9 :: a10 :: a11 :: a12 :: a13 :: a14 :: some d :: Γ) S := rfl
theorem dv16 {a0 a1 a2 a3 a4 a5 a6 a7 a8 a9 a10 a11 a12 a13 a14 a15 : Option D} {d : D} : dVar 16 (a0 :: a1 :: a2 :: a3 :: a4 :: a5 :: a6 :: a7 :: a8 :: a9 :: a10 :: a11 :: a12 :: a13 :: a14 :: a15 :: some d :: Γ) S Φ Ψ = Φ S d := propext ⟨fun ⟨_, e, h⟩ => by cases e; exact h, fun h => ⟨d, rfl, h⟩⟩
theorem nm16 {a0 a1 a2 a3 a4 a5 a6 a7 a8 a9 a10 a11 a12 a13 a14 a15 : Option D} {o : Option D} {d : D} : nmG 16 d (a0 :: a1 :: a2 :: a3 :: a4 :: a5 :: a6 :: a7 :: a8 :: a9 :: a10 :: a11 :: a12 :: a13 :: a14 :: a15 :: o :: Γ) S P = P (a0 :: a1 :: a2 :: a3 :: a4 :: a5 :: a6 :: a7 :: a8 :: a9 :: a10 :: a11 :: a12 :: a13 :: a14 :: a15 :: some d :: Γ) S := rfl
theorem dv17 {a0 a1 a2 a3 a4 a5 a6 a7 a8 a9 a10 a11 a12 a13 a14 a15 a16 : Option D} {d : D} : dVar 17 (a0 :: a1 :: a2 :: a3 :: a4 :: a5 :: a6 :: a7 :: a8 :: a9 :: a10 :: a11 :: a12 :: a13 :: a14 :: a15 :: a16 :: some d :: Γ) S Φ Ψ = Φ S d := propext ⟨fun ⟨_, e, h⟩ => by cases e; exact h, fun h => ⟨d, rfl, h⟩⟩
theorem nm17 {a0 a1 a2 a3 a4 a5 a6 a7 a8 a9 a10 a11 a12 a13 a14 a15 a16 : Option D} {o : Option D} {d : D} : nmG 17 d (a0 :: a1 :: a2 :: a3 :: a4 :: a5 :: a6 :: a7 :: a8 :: a9 :: a10 :: a11 :: a12 :: a13 :: a14 :: a15 :: a16 :: o :: Γ) S P = P (a0 :: a1 :: a2 :: a3 :: a4 :: a5 :: a6 :: a7 :: a8 :: a9 :: a10 :: a11 :: a12 :: a13 :: a14 :: a15 :: a16 :: some d :: Γ) S := rfl
theorem dv18 {a0 a1 a2 a3 a4 a5 a6 a7 a8 a9 a10 a11 a12 a13 a14 a15 a16 a17 : Option D} {d : D} : dVar 18 (a0 :: a1 :: a2 :: a3 :: a4 :: a5 :: a6 :: a7 :: a8 :: a9 :: a10 :: a11 :: a12 :: a13 :: a14 :: a15 :: a16 :: a17 :: some d :: Γ) S Φ Ψ = Φ S d := propext ⟨fun ⟨_, e, h⟩ => by cases e; exact h, fun h => ⟨d, rfl, h⟩⟩
theorem nm18 {a0 a1 a2 a3 a4 a5 a6 a7 a8 a9 a10 a11 a12 a13 a14 a15 a16 a17 : Option D} {o : Option D} {d : D} : nmG 18 d (a0 :: a1 :: a2 :: a3 :: a4 :: a5 :: a6 :: a7 :: a8 :: a9 :: a10 :: a11 :: a12 :: a13 :: a14 :: a15 :: a16 :: a17 :: o :: Γ) S P = P (a0 :: a1 :: a2 :: a3 :: a4 :: a5 :: a6 :: a7 :: a8 :: a9 :: a10 :: a11 :: a12 :: a13 :: a14 :: a15 :: a16 :: a17 :: some d :: Γ) S := rfl
theorem dv19 {a0 a1 a2 a3 a4 a5 a6 a7 a8 a9 a10 a11 a12 a13 a14 a15 a16 a17 a18 : Option D} {d : D} : dVar 19 (a0 :: a1 :: a2 :: a3 :: a4 :: a5 :: a6 :: a7 :: a8 :: a9 :: a10 :: a11 :: a12 :: a13 :: a14 :: a15 :: a16 :: a17 :: a18 :: some d :: Γ) S Φ Ψ = Φ S d := propext ⟨fun ⟨_, e, h⟩ => by cases e; exact h, fun h => ⟨d, rfl, h⟩⟩
theorem nm19 {a0 a1 a2 a3 a4 a5 a6 a7 a8 a9 a10 a11 a12 a13 a14 a15 a16 a17 a18 : Option D} {o : Option D} {d : D} : nmG 19 d (a0 :: a1 :: a2 :: a3 :: a4 :: a5 :: a6 :: a7 :: a8 :: a9 :: a10 :: a11 :: a12 :: a13 :: a14 :: a15 :: a16 :: a17 :: a18 :: o :: Γ) S P = P (a0 :: a1 :: a2 :: a3 :: a4 :: a5 :: a6 :: a7 :: a8 :: a9 :: a10 :: a11 :: a12 :: a13 :: a14 :: a15 :: a16 :: a17 :: a18 :: some d :: Γ) S := rfl
theorem dv20 {a0 a1 a2 a3 a4 a5 a6 a7 a8 a9 a10 a11 a12 a13 a14 a15 a16 a17 a18 a19 : Option D} {d : D} : dVar 20 (a0 :: a1 :: a2 :: a3 :: a4 :: a5 :: a6 :: a7 :: a8 :: a9 :: a10 :: a11 :: a12 :: a13 :: a14 :: a15 :: a16 :: a17 :: a18 :: a19 :: some d :: Γ) S Φ Ψ = Φ S d := propext ⟨fun ⟨_, e, h⟩ => by cases e; exact h, fun h => ⟨d, rfl, h⟩⟩
theorem nm20 {a0 a1 a2 a3 a4 a5 a6 a7 a8 a9 a10 a11 a12 a13 a14 a15 a16 a17 a18 a19 : Option D} {o : Option D} {d : D} : nmG 20 d (a0 :: a1 :: a2 :: a3 :: a4 :: a5 :: a6 :: a7 :: a8 :: a9 :: a10 :: a11 :: a12 :: a13 :: a14 :: a15 :: a16 :: a17 :: a18 :: a19 :: o :: Γ) S P = P (a0 :: a1 :: a2 :: a3 :: a4 :: a5 :: a6 :: a7 :: a8 :: a9 :: a10 :: a11 :: a12 :: a13 :: a14 :: a15 :: a16 :: a17 :: a18 :: a19 :: some d :: Γ) S := rfl
theorem dv21 {a0 a1 a2 a3 a4 a5 a6 a7 a8 a9 a10 a11 a12 a13 a14 a15 a16 a17 a18 a19 a20 : Option D} {d : D} : dVar 21 (a0 :: a1 :: a2 :: a3 :: a4 :: a5 :: a6 :: a7 :: a8 :: a9 :: a10 :: a11 :: a12 :: a13 :: a14 :: a15 :: a16 :: a17 :: a18 :: a19 :: a20 :: some d :: Γ) S Φ Ψ = Φ S d := propext ⟨fun ⟨_, e, h⟩ => by cases e; exact h, fun h => ⟨d, rfl, h⟩⟩
theorem nm21 {a0 a1 a2 a3 a4 a5 a6 a7 a8 a9 a10 a11 a12 a13 a14 a15 a16 a17 a18 a19 a20 : Option D} {o : Option D} {d : D} : nmG 21 d (a0 :: a1 :: a2 :: a3 :: a4 :: a5 :: a6 :: a7 :: a8 :: a9 :: a10 :: a11 :: a12 :: a13 :: a14 :: a15 :: a16 :: a17 :: a18 :: a19 :: a20 :: o :: Γ) S P = P (a0 :: a1 :: a2 :: a3 :: a4 :: a5 :: a6 :: a7 :: a8 :: a9 :: a10 :: a11 :: a12 :: a13 :: a14 :: a15 :: a16 :: a17 :: a18 :: a19 :: a20 :: some d :: Γ) S := rfl
theorem dv22 {a0 a1 a2 a3 a4 a5 a6 a7 a8 a9 a10 a11 a12 a13 a14 a15 a16 a17 a18 a19 a20 a21 : Option D} {d : D} : dVar 22 (a0 :: a1 :: a2 :: a3 :: a4 :: a5 :: a6 :: a7 :: a8 :: a9 :: a10 :: a11 :: a12 :: a13 :: a14 :: a15 :: a16 :: a17 :: a18 :: a19 :: a20 :: a21 :: some d :: Γ) S Φ Ψ = Φ S d := propext ⟨fun ⟨_, e, h⟩ => by cases e; exact h, fun h => ⟨d, rfl, h⟩⟩
theorem nm22 {a0 a1 a2 a3 a4 a5 a6 a7 a8 a9 a10 a11 a12 a13 a14 a15 a16 a17 a18 a19 a20 a21 : Option D} {o : Option D} {d : D} : nmG 22 d (a0 :: a1 :: a2 :: a3 :: a4 :: a5 :: a6 :: a7 :: a8 :: a9 :: a10 :: a11 :: a12 :: a13 :: a14 :: a15 :: a16 :: a17 :: a18 :: a19 :: a20 :: a21 :: o :: Γ) S P = P (a0 :: a1 :: a2 :: a3 :: a4 :: a5 :: a6 :: a7 :: a8 :: a9 :: a10 :: a11 :: a12 :: a13 :: a14 :: a15 :: a16 :: a17 :: a18 :: a19 :: a20 :: a21 :: some d :: Γ) S := rfl
theorem dv23 {a0 a1 a2 a3 a4 a5 a6 a7 a8 a9 a10 a11 a12 a13 a14 a15 a16 a17 a18 a19 a20 a21 a22 : Option D} {d : D} : dVar 23 (a0 :: a1 :: a2 :: a3 :: a4 :: a5 :: a6 :: a7 :: a8 :: a9 :: a10 :: a11 :: a12 :: a13 :: a14 :: a15 :: a16 :: a17 :: a18 :: a19 :: a20 :: a21 :: a22 :: some d :: Γ) S Φ Ψ = Φ S d := propext ⟨fun ⟨_, e, h⟩ => by cases e; exact h, fun h => ⟨d, rfl, h⟩⟩
theorem nm23 {a0 a1 a2 a3 a4 a5 a6 a7 a8 a9 a10 a11 a12 a13 a14 a15 a16 a17 a18 a19 a20 a21 a22 : Option D} {o : Option D} {d : D} : nmG 23 d (a0 :: a1 :: a2 :: a3 :: a4 :: a5 :: a6 :: a7 :: a8 :: a9 :: a10 :: a11 :: a12 :: a13 :: a14 :: a15 :: a16 :: a17 :: a18 :: a19 :: a20 :: a21 :: a22 :: o :: Γ) S P = P (a0 :: a1 :: a2 :: a3 :: a4 :: a5 :: a6 :: a7 :: a8 :: a9 :: a10 :: a11 :: a12 :: a13 :: a14 :: a15 :: a16 :: a17 :: a18 :: a19 :: a20 :: a21 :: a22 :: some d :: Γ) S := rfl
theorem dv24 {a0 a1 a2 a3 a4 a5 a6 a7 a8 a9 a10 a11 a12 a13 a14 a15 a16 a17 a18 a19 a20 a21 a22 a23 : Option D} {d : D} : dVar 24 (a0 :: a1 :: a2 :: a3 :: a4 :: a5 :: a6 :: a7 :: a8 :: a9 :: a10 :: a11 :: a12 :: a13 :: a14 :: a15 :: a16 :: a17 :: a18 :: a19 :: a20 :: a21 :: a22 :: a23 :: some d :: Γ) S Φ Ψ = Φ S d := propext ⟨fun ⟨_, e, h⟩ => by cases e; exact h, fun h => ⟨d, rfl, h⟩⟩
theorem nm24 {a0 a1 a2 a3 a4 a5 a6 a7 a8 a9 a10 a11 a12 a13 a14 a15 a16 a17 a18 a19 a20 a21 a22 a23 : Option D} {o : Option D} {d : D} : nmG 24 d (a0 :: a1 :: a2 :: a3 :: a4 :: a5 :: a6 :: a7 :: a8 :: a9 :: a10 :: a11 :: a12 :: a13 :: a14 :: a15 :: a16 :: a17 :: a18 :: a19 :: a20 :: a21 :: a22 :: a23 :: o :: Γ) S P = P (a0 :: a1 :: a2 :: a3 :: a4 :: a5 :: a6 :: a7 :: a8 :: a9 :: a10 :: a11 :: a12 :: a13 :: a14 :: a15 :: a16 :: a17 :: a18 :: a19 :: a20 :: a21 :: a22 :: a23 :: some d :: Γ) S := rfl
theorem dv25 {a0 a1 a2 a3 a4 a5 a6 a7 a8 a9 a10 a11 a12 a13 a14 a15 a16 a17 a18 a19 a20 a21 a22 a23 a24 : Option D} {d : D} : dVar 25 (a0 :: a1 :: a2 :: a3 :: a4 :: a5 :: a6 :: a7 :: a8 :: a9 :: a10 :: a11 :: a12 :: a13 :: a14 :: a15 :: a16 :: a17 :: a18 :: a19 :: a20 :: a21 :: a22 :: a23 :: a24 :: some d :: Γ) S Φ Ψ = Φ S d := propext ⟨fun ⟨_, e, h⟩ => by cases e; exact h, fun h => ⟨d, rfl, h⟩⟩
theorem nm25 {a0 a1 a2 a3 a4 a5 a6 a7 a8 a9 a10 a11 a12 a13 a14 a15 a16 a17 a18 a19 a20 a21 a22 a23 a24 : Option D} {o : Option D} {d : D} : nmG 25 d (a0 :: a1 :: a2 :: a3 :: a4 :: a5 :: a6 :: a7 :: a8 :: a9 :: a10 :: a11 :: a12 :: a13 :: a14 :: a15 :: a16 :: a17 :: a18 :: a19 :: a20 :: a21 :: a22 :: a23 :: a24 :: o :: Γ) S P = P (a0 :: a1 :: a2 :: a3 :: a4 :: a5 :: a6 :: a7 :: a8 :: a9 :: a10 :: a11 :: a12 :: a13 :: a14 :: a15 :: a16 :: a17 :: a18 :: a19 :: a20 :: a21 :: a22 :: a23 :: a24 :: some d :: Γ) S := rfl
theorem dv26 {a0 a1 a2 a3 a4 a5 a6 a7 a8 a9 a10 a11 a12 a13 a14 a15 a16 a17 a18 a19 a20 a21 a22 a23 a24 a25 : Option D} {d : D} : dVar 26 (a0 :: a1 :: a2 :: a3 :: a4 :: a5 :: a6 :: a7 :: a8 :: a9 :: a10 :: a11 :: a12 :: a13 :: a14 :: a15 :: a16 :: a17 :: a18 :: a19 :: a20 :: a21 :: a22 :: a23 :: a24 :: a25 :: some d :: Γ) S Φ Ψ = Φ S d := propext ⟨fun ⟨_, e, h⟩ => by cases e; exact h, fun h => ⟨d, rfl, h⟩⟩
theorem nm26 {a0 a1 a2 a3 a4 a5 a6 a7 a8 a9 a10 a11 a12 a13 a14 a15 a16 a17 a18 a19 a20 a21 a22 a23 a24 a25 : Option D} {o : Option D} {d : D} : nmG 26 d (a0 :: a1 :: a2 :: a3 :: a4 :: a5 :: a6 :: a7 :: a8 :: a9 :: a10 :: a11 :: a12 :: a13 :: a14 :: a15 :: a16 :: a17 :: a18 :: a19 :: a20 :: a21 :: a22 :: a23 :: a24 :: a25 :: o :: Γ) S P = P (a0 :: a1 :: a2 :: a3 :: a4 :: a5 :: a6 :: a7 :: a8 :: a9 :: a10 :: a11 :: a12 :: a13 :: a14 :: a15 :: a16 :: a17 :: a18 :: a19 :: a20 :: a21 :: a22 :: a23 :: a24 :: a25 :: some d :: Γ) S := rfl
theorem dv27 {a0 a1 a2 a3 a4 a5 a6 a7 a8 a9 a10 a11 a12 a13 a14 a15 a16 a17 a18 a19 a20 a21 a22 a23 a24 a25 a26 : Option D} {d : D} : dVar 27 (a0 :: a1 :: a2 :: a3 :: a4 :: a5 :: a6 :: a7 :: a8 :: a9 :: a10 :: a11 :: a12 :: a13 :: a14 :: a15 :: a16 :: a17 :: a18 :: a19 :: a20 :: a21 :: a22 :: a23 :: a24 :: a25 :: a26 :: some d :: Γ) S Φ Ψ = Φ S d := propext ⟨fun ⟨_, e, h⟩ => by cases e; exact h, fun h => ⟨d, rfl, h⟩⟩
theorem nm27 {a0 a1 a2 a3 a4 a5 a6 a7 a8 a9 a10 a11 a12 a13 a14 a15 a16 a17 a18 a19 a20 a21 a22 a23 a24 a25 a26 : Option D} {o : Option D} {d : D} : nmG 27 d (a0 :: a1 :: a2 :: a3 :: a4 :: a5 :: a6 :: a7 :: a8 :: a9 :: a10 :: a11 :: a12 :: a13 :: a14 :: a15 :: a16 :: a17 :: a18 :: a19 :: a20 :: a21 :: a22 :: a23 :: a24 :: a25 :: a26 :: o :: Γ) S P = P (a0 :: a1 :: a2 :: a3 :: a4 :: a5 :: a6 :: a7 :: a8 :: a9 :: a10 :: a11 :: a12 :: a13 :: a14 :: a15 :: a16 :: a17 :: a18 :: a19 :: a20 :: a21 :: a22 :: a23 :: a24 :: a25 :: a26 :: some d :: Γ) S := rfl
theorem dv28 {a0 a1 a2 a3 a4 a5 a6 a7 a8 a9 a10 a11 a12 a13 a14 a15 a16 a17 a18 a19 a20 a21 a22 a23 a24 a25 a26 a27 : Option D} {d : D} : dVar 28 (a0 :: a1 :: a2 :: a3 :: a4 :: a5 :: a6 :: a7 :: a8 :: a9 :: a10 :: a11 :: a12 :: a13 :: a14 :: a15 :: a16 :: a17 :: a18 :: a19 :: a20 :: a21 :: a22 :: a23 :: a24 :: a25 :: a26 :: a27 :: some d :: Γ) S Φ Ψ = Φ S d := propext ⟨fun ⟨_, e, h⟩ => by cases e; exact h, fun h => ⟨d, rfl, h⟩⟩
theorem nm28 {a0 a1 a2 a3 a4 a5 a6 a7 a8 a9 a10 a11 a12 a13 a14 a15 a16 a17 a18 a19 a20 a21 a22 a23 a24 a25 a26 a27 : Option D} {o : Option D} {d : D} : nmG 28 d (a0 :: a1 :: a2 :: a3 :: a4 :: a5 :: a6 :: a7 :: a8 :: a9 :: a10 :: a11 :: a12 :: a13 :: a14 :: a15 :: a16 :: a17 :: a18 :: a19 :: a20 :: a21 :: a22 :: a23 :: a24 :: a25 :: a26 :: a27 :: o :: Γ) S P = P (a0 :: a1 :: a2 :: a3 :: a4 :: a5 :: a6 :: a7 :: a8 :: a9 :: a10 :: a11 :: a12 :: a13 :: a14 :: a15 :: a16 :: a17 :: a18 :: a19 :: a20 :: a21 :: a22 :: a23 :: a24 :: a25 :: a26 :: a27 :: some d :: Γ) S := rfl
theorem dv29 {a0 a1 a2 a3 a4 a5 a6 a7 a8 a9 a10 a11 a12 a13 a14 a15 a16 a17 a18 a19 a20 a21 a22 a23 a24 a25 a26 a27 a28 : Option D} {d : D} : dVar 29 (a0 :: a1 :: a2 :: a3 :: a4 :: a5 :: a6 :: a7 :: a8 :: a9 :: a10 :: a11 :: a12 :: a13 :: a14 :: a15 :: a16 :: a17 :: a18 :: a19 :: a20 :: a21 :: a22 :: a23 :: a24 :: a25 :: a26 :: a27 :: a28 :: some d :: Γ) S Φ Ψ = Φ S d := propext ⟨fun ⟨_, e, h⟩ => by cases e; exact h, fun h => ⟨d, rfl, h⟩⟩
theorem nm29 {a0 a1 a2 a3 a4 a5 a6 a7 a8 a9 a10 a11 a12 a13 a14 a15 a16 a17 a18 a19 a20 a21 a22 a23 a24 a25 a26 a27 a28 : Option D} {o : Option D} {d : D} : nmG 29 d (a0 :: a1 :: a2 :: a3 :: a4 :: a5 :: a6 :: a7 :: a8 :: a9 :: a10 :: a11 :: a12 :: a13 :: a14 :: a15 :: a16 :: a17 :: a18 :: a19 :: a20 :: a21 :: a22 :: a23 :: a24 :: a25 :: a26 :: a27 :: a28 :: o :: Γ) S P = P (a0 :: a1 :: a2 :: a3 :: a4 :: a5 :: a6 :: a7 :: a8 :: a9 :: a10 :: a11 :: a12 :: a13 :: a14 :: a15 :: a16 :: a17 :: a18 :: a19 :: a20 :: a21 :: a22 :: a23 :: a24 :: a25 :: a26 :: a27 :: a28 :: some d :: Γ) S := rfl
theorem dv30 {a0 a1 a2 a3 a4 a5 a6 a7 a8 a9 a10 a11 a12 a13 a14 a15 a16 a17 a18 a19 a20 a21 a22 a23 a24 a25 a26 a27 a28 a29 : Option D} {d : D} : dVar 30 (a0 :: a1 :: a2 :: a3 :: a4 :: a5 :: a6 :: a7 :: a8 :: a9 :: a10 :: a11 :: a12 :: a13 :: a14 :: a15 :: a16 :: a17 :: a18 :: a19 :: a20 :: a21 :: a22 :: a23 :: a24 :: a25 :: a26 :: a27 :: a28 :: a29 :: some d :: Γ) S Φ Ψ = Φ S d := propext ⟨fun ⟨_, e, h⟩ => by cases e; exact h, fun h => ⟨d, rfl, h⟩⟩
theorem nm30 {a0 a1 a2 a3 a4 a5 a6 a7 a8 a9 a10 a11 a12 a13 a14 a15 a16 a17 a18 a19 a20 a21 a22 a23 a24 a25 a26 a27 a28 a29 : Option D} {o : Option D} {d : D} : nmG 30 d (a0 :: a1 :: a2 :: a3 :: a4 :: a5 :: a6 :: a7 :: a8 :: a9 :: a10 :: a11 :: a12 :: a13 :: a14 :: a15 :: a16 :: a17 :: a18 :: a19 :: a20 :: a21 :: a22 :: a23 :: a24 :: a25 :: a26 :: a27 :: a28 :: a29 :: o :: Γ) S P = P (a0 :: a1 :: a2 :: a3 :: a4 :: a5 :: a6 :: a7 :: a8 :: a9 :: a10 :: a11 :: a12 :: a13 :: a14 :: a15 :: a16 :: a17 :: a18 :: a19 :: a20 :: a21 :: a22 :: a23 :: a24 :: a25 :: a26 :: a27 :: a28 :: a29 :: some d :: Γ) S := rfl
theorem dv31 {a0 a1 a2 a3 a4 a5 a6 a7 a8 a9 a10 a11 a12 a13 a14 a15 a16 a17 a18 a19 a20 a21 a22 a23 a24 a25 a26 a27 a28 a29 a30 : Option D} {d : D} : dVar 31 (a0 :: a1 :: a2 :: a3 :: a4 :: a5 :: a6 :: a7 :: a8 :: a9 :: a10 :: a11 :: a12 :: a13 :: a14 :: a15 :: a16 :: a17 :: a18 :: a19 :: a20 :: a21 :: a22 :: a23 :: a24 :: a25 :: a26 :: a27 :: a28 :: a29 :: a30 :: some d :: Γ) S Φ Ψ = Φ S d := propext ⟨fun ⟨_, e, h⟩ => by cases e; exact h, fun h => ⟨d, rfl, h⟩⟩
theorem nm31 {a0 a1 a2 a3 a4 a5 a6 a7 a8 a9 a10 a11 a12 a13 a14 a15 a16 a17 a18 a19 a20 a21 a22 a23 a24 a25 a26 a27 a28 a29 a30 : Option D} {o : Option D} {d : D} : nmG 31 d (a0 :: a1 :: a2 :: a3 :: a4 :: a5 :: a6 :: a7 :: a8 :: a9 :: a10 :: a11 :: a12 :: a13 :: a14 :: a15 :: a16 :: a17 :: a18 :: a19 :: a20 :: a21 :: a22 :: a23 :: a24 :: a25 :: a26 :: a27 :: a28 :: a29 :: a30 :: o :: Γ) S P = P (a0 :: a1 :: a2 :: a3 :: a4 :: a5 :: a6 :: a7 :: a8 :: a9 :: a10 :: a11 :: a12 :: a13 :: a14 :: a15 :: a16 :: a17 :: a18 :: a19 :: a20 :: a21 :: a22 :: a23 :: a24 :: a25 :: a26 :: a27 :: a28 :: a29 :: a30 :: some d :: Γ) S := rfl
theorem dv32 {a0 a1 a2 a3 a4 a5 a6 a7 a8 a9 a10 a11 a12 a13 a14 a15 a16 a17 a18 a19 a20 a21 a22 a23 a24 a25 a26 a27 a28 a29 a30 a31 : Option D} {d : D} : dVar 32 (a0 :: a1 :: a2 :: a3 :: a4 :: a5 :: a6 :: a7 :: a8 :: a9 :: a10 :: a11 :: a12 :: a13 :: a14 :: a15 :: a16 :: a17 :: a18 :: a19 :: a20 :: a21 :: a22 :: a23 :: a24 :: a25 :: a26 :: a27 :: a28 :: a29 :: a30 :: a31 :: some d :: Γ) S Φ Ψ = Φ S d := propext ⟨fun ⟨_, e, h⟩ => by cases e; exact h, fun h => ⟨d, rfl, h⟩⟩
theorem nm32 {a0 a1 a2 a3 a4 a5 a6 a7 a8 a9 a10 a11 a12 a13 a14 a15 a16 a17 a18 a19 a20 a21 a22 a23 a24 a25 a26 a27 a28 a29 a30 a31 : Option D} {o : Option D} {d : D} : nmG 32 d (a0 :: a1 :: a2 :: a3 :: a4 :: a5 :: a6 :: a7 :: a8 :: a9 :: a10 :: a11 :: a12 :: a13 :: a14 :: a15 :: a16 :: a17 :: a18 :: a19 :: a20 :: a21 :: a22 :: a23 :: a24 :: a25 :: a26 :: a27 :: a28 :: a29 :: a30 :: a31 :: o :: Γ) S P = P (a0 :: a1 :: a2 :: a3 :: a4 :: a5 :: a6 :: a7 :: a8 :: a9 :: a10 :: a11 :: a12 :: a13 :: a14 :: a15 :: a16 :: a17 :: a18 :: a19 :: a20 :: a21 :: a22 :: a23 :: a24 :: a25 :: a26 :: a27 :: a28 :: a29 :: a30 :: a31 :: some d :: Γ) S := rfl
theorem dv33 {a0 a1 a2 a3 a4 a5 a6 a7 a8 a9 a10 a11 a12 a13 a14 a15 a16 a17 a18 a19 a20 a21 a22 a23 a24 a25 a26 a27 a28 a29 a30 a31 a32 : Option D} {d : D} : dVar 33 (a0 :: a1 :: a2 :: a3 :: a4 :: a5 :: a6 :: a7 :: a8 :: a9 :: a10 :: a11 :: a12 :: a13 :: a14 :: a15 :: a16 :: a17 :: a18 :: a19 :: a20 :: a21 :: a22 :: a23 :: a24 :: a25 :: a26 :: a27 :: a28 :: a29 :: a30 :: a31 :: a32 :: some d :: Γ) S Φ Ψ = Φ S d := propext ⟨fun ⟨_, e, h⟩ => by cases e; exact h, fun h => ⟨d, rfl, h⟩⟩
theorem nm33 {a0 a1 a2 a3 a4 a5 a6 a7 a8 a9 a10 a11 a12 a13 a14 a15 a16 a17 a18 a19 a20 a21 a22 a23 a24 a25 a26 a27 a28 a29 a30 a31 a32 : Option D} {o : Option D} {d : D} : nmG 33 d (a0 :: a1 :: a2 :: a3 :: a4 :: a5 :: a6 :: a7 :: a8 :: a9 :: a10 :: a11 :: a12 :: a13 :: a14 :: a15 :: a16 :: a17 :: a18 :: a19 :: a20 :: a21 :: a22 :: a23 :: a24 :: a25 :: a26 :: a27 :: a28 :: a29 :: a30 :: a31 :: a32 :: o :: Γ) S P = P (a0 :: a1 :: a2 :: a3 :: a4 :: a5 :: a6 :: a7 :: a8 :: a9 :: a10 :: a11 :: a12 :: a13 :: a14 :: a15 :: a16 :: a17 :: a18 :: a19 :: a20 :: a21 :: a22 :: a23 :: a24 :: a25 :: a26 :: a27 :: a28 :: a29 :: a30 :: a31 :: a32 :: some d :: Γ) S := rfl
theorem dv34 {a0 a1 a2 a3 a4 a5 a6 a7 a8 a9 a10 a11 a12 a13 a14 a15 a16 a17 a18 a19 a20 a21 a22 a23 a24 a25 a26 a27 a28 a29 a30 a31 a32 a33 : Option D} {d : D} : dVar 34 (a0 :: a1 :: a2 :: a3 :: a4 :: a5 :: a6 :: a7 :: a8 :: a9 :: a10 :: a11 :: a12 :: a13 :: a14 :: a15 :: a16 :: a17 :: a18 :: a19 :: a20 :: a21 :: a22 :: a23 :: a24 :: a25 :: a26 :: a27 :: a28 :: a29 :: a30 :: a31 :: a32 :: a33 :: some d :: Γ) S Φ Ψ = Φ S d := propext ⟨fun ⟨_, e, h⟩ => by cases e; exact h, fun h => ⟨d, rfl, h⟩⟩
theorem nm34 {a0 a1 a2 a3 a4 a5 a6 a7 a8 a9 a10 a11 a12 a13 a14 a15 a16 a17 a18 a19 a20 a21 a22 a23 a24 a25 a26 a27 a28 a29 a30 a31 a32 a33 : Option D} {o : Option D} {d : D} : nmG 34 d (a0 :: a1 :: a2 :: a3 :: a4 :: a5 :: a6 :: a7 :: a8 :: a9 :: a10 :: a11 :: a12 :: a13 :: a14 :: a15 :: a16 :: a17 :: a18 :: a19 :: a20 :: a21 :: a22 :: a23 :: a24 :: a25 :: a26 :: a27 :: a28 :: a29 :: a30 :: a31 :: a32 :: a33 :: o :: Γ) S P = P (a0 :: a1 :: a2 :: a3 :: a4 :: a5 :: a6 :: a7 :: a8 :: a9 :: a10 :: a11 :: a12 :: a13 :: a14 :: a15 :: a16 :: a17 :: a18 :: a19 :: a20 :: a21 :: a22 :: a23 :: a24 :: a25 :: a26 :: a27 :: a28 :: a29 :: a30 :: a31 :: a32 :: a33 :: some d :: Γ) S := rfl
theorem dv35 {a0 a1 a2 a3 a4 a5 a6 a7 a8 a9 a10 a11 a12 a13 a14 a15 a16 a17 a18 a19 a20 a21 a22 a23 a24 a25 a26 a27 a28 a29 a30 a31 a32 a33 a34 : Option D} {d : D} : dVar 35 (a0 :: a1 :: a2 :: a3 :: a4 :: a5 :: a6 :: a7 :: a8 :: a9 :: a10 :: a11 :: a12 :: a13 :: a14 :: a15 :: a16 :: a17 :: a18 :: a19 :: a20 :: a21 :: a22 :: a23 :: a24 :: a25 :: a26 :: a27 :: a28 :: a29 :: a30 :: a31 :: a32 :: a33 :: a34 :: some d :: Γ) S Φ Ψ = Φ S d := propext ⟨fun ⟨_, e, h⟩ => by cases e; exact h, fun h => ⟨d, rfl, h⟩⟩
theorem nm35 {a0 a1 a2 a3 a4 a5 a6 a7 a8 a9 a10 a11 a12 a13 a14 a15 a16 a17 a18 a19 a20 a21 a22 a23 a24 a25 a26 a27 a28 a29 a30 a31 a32 a33 a34 : Option D} {o : Option D} {d : D} : nmG 35 d (a0 :: a1 :: a2 :: a3 :: a4 :: a5 :: a6 :: a7 :: a8 :: a9 :: a10 :: a11 :: a12 :: a13 :: a14 :: a15 :: a16 :: a17 :: a18 :: a19 :: a20 :: a21 :: a22 :: a23 :: a24 :: a25 :: a26 :: a27 :: a28 :: a29 :: a30 :: a31 :: a32 :: a33 :: a34 :: o :: Γ) S P = P (a0 :: a1 :: a2 :: a3 :: a4 :: a5 :: a6 :: a7 :: a8 :: a9 :: a10 :: a11 :: a12 :: a13 :: a14 :: a15 :: a16 :: a17 :: a18 :: a19 :: a20 :: a21 :: a22 :: a23 :: a24 :: a25 :: a26 :: a27 :: a28 :: a29 :: a30 :: a31 :: a32 :: a33 :: a34 :: some d :: Γ) S := rfl
theorem dv36 {a0 a1 a2 a3 a4 a5 a6 a7 a8 a9 a10 a11 a12 a13 a14 a15 a16 a17 a18 a19 a20 a21 a22 a23 a24 a25 a26 a27 a28 a29 a30 a31 a32 a33 a34 a35 : Option D} {d : D} : dVar 36 (a0 :: a1 :: a2 :: a3 :: a4 :: a5 :: a6 :: a7 :: a8 :: a9 :: a10 :: a11 :: a12 :: a13 :: a14 :: a15 :: a16 :: a17 :: a18 :: a19 :: a20 :: a21 :: a22 :: a23 :: a24 :: a25 :: a26 :: a27 :: a28 :: a29 :: a30 :: a31 :: a32 :: a33 :: a34 :: a35 :: some d :: Γ) S Φ Ψ = Φ S d := propext ⟨fun ⟨_, e, h⟩ => by cases e; exact h, fun h => ⟨d, rfl, h⟩⟩
theorem nm36 {a0 a1 a2 a3 a4 a5 a6 a7 a8 a9 a10 a11 a12 a13 a14 a15 a16 a17 a18 a19 a20 a21 a22 a23 a24 a25 a26 a27 a28 a29 a30 a31 a32 a33 a34 a35 : Option D} {o : Option D} {d : D} : nmG 36 d (a0 :: a1 :: a2 :: a3 :: a4 :: a5 :: a6 :: a7 :: a8 :: a9 :: a10 :: a11 :: a12 :: a13 :: a14 :: a15 :: a16 :: a17 :: a18 :: a19 :: a20 :: a21 :: a22 :: a23 :: a24 :: a25 :: a26 :: a27 :: a28 :: a29 :: a30 :: a31 :: a32 :: a33 :: a34 :: a35 :: o :: Γ) S P = P (a0 :: a1 :: a2 :: a3 :: a4 :: a5 :: a6 :: a7 :: a8 :: a9 :: a10 :: a11 :: a12 :: a13 :: a14 :: a15 :: a16 :: a17 :: a18 :: a19 :: a20 :: a21 :: a22 :: a23 :: a24 :: a25 :: a26 :: a27 :: a28 :: a29 :: a30 :: a31 :: a32 :: a33 :: a34 :: a35 :: some d :: Γ) S := rfl
theorem dv37 {a0 a1 a2 a3 a4 a5 a6 a7 a8 a9 a10 a11 a12 a13 a14 a15 a16 a17 a18 a19 a20 a21 a22 a23 a24 a25 a26 a27 a28 a29 a30 a31 a32 a33 a34 a35 a36 : Option D} {d : D} : dVar 37 (a0 :: a1 :: a2 :: a3 :: a4 :: a5 :: a6 :: a7 :: a8 :: a9 :: a10 :: a11 :: a12 :: a13 :: a14 :: a15 :: a16 :: a17 :: a18 :: a19 :: a20 :: a21 :: a22 :: a23 :: a24 :: a25 :: a26 :: a27 :: a28 :: a29 :: a30 :: a31 :: a32 :: a33 :: a34 :: a35 :: a36 :: some d :: Γ) S Φ Ψ = Φ S d := propext ⟨fun ⟨_, e, h⟩ => by cases e; exact h, fun h => ⟨d, rfl, h⟩⟩
theorem nm37 {a0 a1 a2 a3 a4 a5 a6 a7 a8 a9 a10 a11 a12 a13 a14 a15 a16 a17 a18 a19 a20 a21 a22 a23 a24 a25 a26 a27 a28 a29 a30 a31 a32 a33 a34 a35 a36 : Option D} {o : Option D} {d : D} : nmG 37 d (a0 :: a1 :: a2 :: a3 :: a4 :: a5 :: a6 :: a7 :: a8 :: a9 :: a10 :: a11 :: a12 :: a13 :: a14 :: a15 :: a16 :: a17 :: a18 :: a19 :: a20 :: a21 :: a22 :: a23 :: a24 :: a25 :: a26 :: a27 :: a28 :: a29 :: a30 :: a31 :: a32 :: a33 :: a34 :: a35 :: a36 :: o :: Γ) S P = P (a0 :: a1 :: a2 :: a3 :: a4 :: a5 :: a6 :: a7 :: a8 :: a9 :: a10 :: a11 :: a12 :: a13 :: a14 :: a15 :: a16 :: a17 :: a18 :: a19 :: a20 :: a21 :: a22 :: a23 :: a24 :: a25 :: a26 :: a27 :: a28 :: a29 :: a30 :: a31 :: a32 :: a33 :: a34 :: a35 :: a36 :: some d :: Γ) S := rfl
theorem dv38 {a0 a1 a2 a3 a4 a5 a6 a7 a8 a9 a10 a11 a12 a13 a14 a15 a16 a17 a18 a19 a20 a21 a22 a23 a24 a25 a26 a27 a28 a29 a30 a31 a32 a33 a34 a35 a36 a37 : Option D} {d : D} : dVar 38 (a0 :: a1 :: a2 :: a3 :: a4 :: a5 :: a6 :: a7 :: a8 :: a9 :: a10 :: a11 :: a12 :: a13 :: a14 :: a15 :: a16 :: a17 :: a18 :: a19 :: a20 :: a21 :: a22 :: a23 :: a24 :: a25 :: a26 :: a27 :: a28 :: a29 :: a30 :: a31 :: a32 :: a33 :: a34 :: a35 :: a36 :: a37 :: some d :: Γ) S Φ Ψ = Φ S d := propext ⟨fun ⟨_, e, h⟩ => by cases e; exact h, fun h => ⟨d, rfl, h⟩⟩
theorem nm38 {a0 a1 a2 a3 a4 a5 a6 a7 a8 a9 a10 a11 a12 a13 a14 a15 a16 a17 a18 a19 a20 a21 a22 a23 a24 a25 a26 a27 a28 a29 a30 a31 a32 a33 a34 a35 a36 a37 : Option D} {o : Option D} {d : D} : nmG 38 d (a0 :: a1 :: a2 :: a3 :: a4 :: a5 :: a6 :: a7 :: a8 :: a9 :: a10 :: a11 :: a12 :: a13 :: a14 :: a15 :: a16 :: a17 :: a18 :: a19 :: a20 :: a21 :: a22 :: a23 :: a24 :: a25 :: a26 :: a27 :: a28 :: a29 :: a30 :: a31 :: a32 :: a33 :: a34 :: a35 :: a36 :: a37 :: o :: Γ) S P = P (a0 :: a1 :: a2 :: a3 :: a4 :: a5 :: a6 :: a7 :: a8 :: a9 :: a10 :: a11 :: a12 :: a13 :: a14 :: a15 :: a16 :: a17 :: a18 :: a19 :: a20 :: a21 :: a22 :: a23 :: a24 :: a25 :: a26 :: a27 :: a28 :: a29 :: a30 :: a31 :: a32 :: a33 :: a34 :: a35 :: a36 :: a37 :: some d :: Γ) S := rfl
theorem dv39 {a0 a1 a2 a3 a4 a5 a6 a7 a8 a9 a10 a11 a12 a13 a14 a15 a16 a17 a18 a19 a20 a21 a22 a23 a24 a25 a26 a27 a28 a29 a30 a31 a32 a33 a34 a35 a36 a37 a38 : Option D} {d : D} : dVar 39 (a0 :: a1 :: a2 :: a3 :: a4 :: a5 :: a6 :: a7 :: a8 :: a9 :: a10 :: a11 :: a12 :: a13 :: a14 :: a15 :: a16 :: a17 :: a18 :: a19 :: a20 :: a21 :: a22 :: a23 :: a24 :: a25 :: a26 :: a27 :: a28 :: a29 :: a30 :: a31 :: a32 :: a33 :: a34 :: a35 :: a36 :: a37 :: a38 :: some d :: Γ) S Φ Ψ = Φ S d := propext ⟨fun ⟨_, e, h⟩ => by cases e; exact h, fun h => ⟨d, rfl, h⟩⟩
theorem nm39 {a0 a1 a2 a3 a4 a5 a6 a7 a8 a9 a10 a11 a12 a13 a14 a15 a16 a17 a18 a19 a20 a21 a22 a23 a24 a25 a26 a27 a28 a29 a30 a31 a32 a33 a34 a35 a36 a37 a38 : Option D} {o : Option D} {d : D} : nmG 39 d (a0 :: a1 :: a2 :: a3 :: a4 :: a5 :: a6 :: a7 :: a8 :: a9 :: a10 :: a11 :: a12 :: a13 :: a14 :: a15 :: a16 :: a17 :: a18 :: a19 :: a20 :: a21 :: a22 :: a23 :: a24 :: a25 :: a26 :: a27 :: a28 :: a29 :: a30 :: a31 :: a32 :: a33 :: a34 :: a35 :: a36 :: a37 :: a38 :: o :: Γ) S P = P (a0 :: a1 :: a2 :: a3 :: a4 :: a5 :: a6 :: a7 :: a8 :: a9 :: a10 :: a11 :: a12 :: a13 :: a14 :: a15 :: a16 :: a17 :: a18 :: a19 :: a20 :: a21 :: a22 :: a23 :: a24 :: a25 :: a26 :: a27 :: a28 :: a29 :: a30 :: a31 :: a32 :: a33 :: a34 :: a35 :: a36 :: a37 :: a38 :: some d :: Γ) S := rfl
theorem sPar_n {E : EdD} {i j : Nat} {T : TL} : sPar i j T E Γ S = (T Γ S (fun S1 ds => ∃ x y, ds = [x, y] ∧ nmG i x Γ S1 fun Γ' S' => nmG j y Γ' S' E.nx) E.er) := rfl
theorem sPar3_n {E : EdD} {i j l : Nat} {T : TL} : sPar3 i j l T E Γ S = (T Γ S (fun S1 ds => ∃ x y z, ds = [x, y, z] ∧ nmG i x Γ S1 fun Γ' S' => nmG j y Γ' S' fun Γ2 S2 => nmG l z Γ2 S2 E.nx) E.er) := rfl
theorem sAug_n {E : EdD} {i : Nat} {T : TD} {f : D → D → Sto → KD → Prop} : sAug i T f E Γ S = dVar i Γ S (fun _ d => T Γ S (fun S1 y => f d y S1 fun S2 z => nmG i z Γ S2 E.nx) E.er) E.er := rfl
end
end DL
namespace DL
open PySem PySem.Spec PyProof.Rows L2
abbrev wNo : WX := fun _ _ _ _ => False
end DL
namespace DL
open PySem PySem.Spec PyProof.Rows L2
section
variable {X : Cx} {W : WX} {e : Expr} {te : TE} {Te : TD}
def dLRg (T : TD) : TD := fun Γ S Φ Ψ => T Γ S (fun S1 d => ∃ n : Nat, d = .int n ∧ n ≤ 1000000 ∧ Φ S1 (.lst (rngD 0 n))) Ψ
def dLRgO (T : TD) : TD := fun Γ S Φ Ψ => T Γ S (fun S1 d => ∃ n : Nat, d = .int n ∧ n ≤ 1000000 ∧ Φ (S1 ++ [.lst (rngD 0 n)]) (.own S1.length)) Ψ
end
def dAddI := iOp0 fun i j => D.int (i + j)
def dSubI := iOp0 fun i j => D.int (i - j)
theorem dAddI_i {i j : Int} {S : Sto} {Φ : KD} : dAddI (.int i) (.int j) S Φ = Φ S (.int (i + j)) := rfl
theorem dSubI_i {i j : Int} {S : Sto} {Φ : KD} : dSubI (.int i) (.int j) S Φ = Φ S (.int (i - j)) := rfl
section
variable {Γ : Gam} {S : Sto} {Φ : KD} {Ψ : KX}
theorem dLRg_e {T : TD} : dLRg T Γ S Φ Ψ = T Γ S (fun S1 d => ∃ n : Nat, d = .int n ∧ n ≤ 1000000 ∧ Φ S1 (.lst (rngD 0 n))) Ψ := rfl
theorem dLRgO_e {T : TD} : dLRgO T Γ S Φ Ψ = T Γ S (fun S1 d => ∃ n : Nat, d = .int n ∧ n ≤ 1000000 ∧ Φ (S1 ++ [.lst (rngD 0 n)]) (.own S1.length)) Ψ := rfl
end
end DL
namespace DL
open PySem PySem.Spec PyProof.Rows L2
def putT (ks : List (List Key × D)) (k : List Key) (d : D) : List (List Key × D) :=
  if (ks.any fun kv => decide (kv.1 = k)) = true then ks.map (fun kv => if kv.1 = k then (kv.1, d) else kv) else ks ++ [(k, d)]
def dMulO (x y : D) (S : Sto) (Φ : KD) : Prop := ∃ xs, ∃ k : Nat, asL S x = some xs ∧ y = .int k ∧ xs.length * k ≤ 1000000 ∧ k ≤ 1000000 ∧ Φ (S ++ [.lst (List.replicate k xs).flatten]) (.own S.length)
theorem opd_mulO {K : PySem.W.Frag} : OpD K rMulA dMulO := fun w S x y u v Φ Q g r1 r2 ⟨xs, k, e1, ek, hl, hk, hΦ⟩ q => by
  subst ek
  obtain ⟨a, us, rfl, h1, h2⟩ := asL_at g r1 e1
  exact .inr (.inr ⟨a, k, us, rfl, rv_int r2, h1, by omega, by omega, by rw [h2.length]; exact small hl, new_own g q (ra_rep h2 _) hΦ⟩)
def dNew : TD := fun Γ S Φ Ψ => Φ (S ++ [.dct []]) (.own S.length)
section
variable {X : Cx} {W : WX}
def sDct (Tv To : TD) (Tl : TL) : TSd := fun E Γ S => Tv Γ S (fun S1 v => To Γ S1 (fun S2 o => Tl Γ S2 (fun S3 ds => ∃ h ks, ∃ ns : List Int, o = .own h ∧ ds = ns.map D.int ∧ S3[h]? = some (.dct ks) ∧ ks.length < 1000000 ∧ ns.length ≤ 1000 ∧ E.nx Γ (S3.set h (.dct (putT ks (ns.map Sum.inl) v)))) E.er) E.er) E.er
end
section
variable {Γ : Gam} {S : Sto} {Φ : KD} {Ψ : KX}
theorem dNew_e : dNew Γ S Φ Ψ = Φ (S ++ [Cell.dct []]) (.own S.length) := rfl
theorem sDct_e {E : EdD} {Tv To : TD} {Tl : TL} : sDct Tv To Tl E Γ S = Tv Γ S (fun S1 v => To Γ S1 (fun S2 o => Tl Γ S2 (fun S3 ds => ∃ h ks, ∃ ns : List Int, o = .own h ∧ ds = ns.map D.int ∧ S3[h]? = some (.dct ks) ∧ ks.length < 1000000 ∧ ns.length ≤ 1000 ∧ E.nx Γ (S3.set h (.dct (putT ks (ns.map Sum.inl) v)))) E.er) E.er) E.er := rfl
theorem dMulO_l {xs : List D} {k : Nat} : dMulO (.lst xs) (.int k) S Φ = (xs.length * k ≤ 1000000 ∧ k ≤ 1000000 ∧ Φ (S ++ [.lst (List.replicate k xs).flatten]) (.own S.length)) := propext ⟨fun ⟨_, _, e1, e2, h⟩ => by cases e1; cases e2; exact h, fun h => ⟨_, _, rfl, rfl, h⟩⟩
end
end DL
namespace DL
open PySem PySem.Spec PyProof.Rows L2
section
variable {X : Cx} {W : WX} {e : Expr} {es : List Expr} {te : TE} {Te : TD} {tl : TA} {Tl : TL}
def dIsiT (T : TD) (Tl : TL) : TD := fun Γ S Φ Ψ => T Γ S (fun S1 d => Tl Γ S1 (fun S2 ds => ∃ a, ∃ ns : List String, ds = ns.map D.ty ∧ tyOf S2 d = some a ∧ ns.length ≤ 1000 ∧ (∀ n ∈ ns, n ∈ tyN) ∧ Φ S2 (.bl (ns.any (isTyB a)))) Ψ) Ψ
end
theorem dIsiT_e {Γ : Gam} {S : Sto} {Φ : KD} {Ψ : KX} {T : TD} {Tl : TL} : dIsiT T Tl Γ S Φ Ψ = T Γ S (fun S1 d => Tl Γ S1 (fun S2 ds => ∃ a, ∃ ns : List String, ds = ns.map D.ty ∧ tyOf S2 d = some a ∧ ns.length ≤ 1000 ∧ (∀ n ∈ ns, n ∈ tyN) ∧ Φ S2 (.bl (ns.any (isTyB a)))) Ψ) Ψ := rfl
end DL
namespace DL
open PySem PySem.Spec PyProof.Rows L2
/-- values that are pairs of whole numbers -/
def Prs (K : PySem.W.Frag) (H : Hp) (xs : List V) (ps : List (Int × Int)) : Prop := xs.length = ps.length ∧ ∀ i (h1 : i < xs.length) (h2 : i < ps.length), ∃ t, xs[i] = V.ref t ∧ SqT K H t [.int ps[i].1, .int ps[i].2]
def rSortQ (K : PySem.W.Frag) : List V → Hp → VK → Prop := fun vs H Q => ∃ (a : Addr) (xs : List V) (ps : List (Int × Int)), vs = [V.ref a] ∧ SqL K H a xs ∧ Prs K H xs ps ∧
  ∀ ys qs p, ys.length = qs.length → (ys.zip qs).Perm (xs.zip ps) → qs.Pairwise (fun a b => SrtO.lexB b a = false) → H p = none → Q (.ref p) (upd H p (.lst ys))
section
variable {X : Cx}
theorem cr_sortQ : CallR X (.builtin "sorted") (rSortQ X.K) := by
  intro pins s σ H vs us Q I r h
  obtain ⟨a, xs, ps, rfl, hs, ⟨hlen, hps⟩, q⟩ := h
  obtain ⟨its, rv, hl, hz⟩ := I.list hs
  obtain ⟨u, rfl, ru⟩ := vals1 r
  obtain rfl : u = Value.ref a := ru
  classical
  let k : V → Int × Int := fun v => if e : ∃ p : Int × Int, ∃ t, v = V.ref t ∧ SqT X.K H t [.int p.1, .int p.2] then e.choose else (0, 0)
  have hk : ∀ i (h1 : i < xs.length) (h2 : i < ps.length), k xs[i] = ps[i] := fun i h1 h2 => by
    obtain ⟨t, e, ht⟩ := hps i h1 h2
    have ex : ∃ p : Int × Int, ∃ t, xs[i] = V.ref t ∧ SqT X.K H t [.int p.1, .int p.2] := ⟨ps[i], t, e, ht⟩
    show (if e : _ then _ else _) = _
    rw [dif_pos ex]
    obtain ⟨t', e', ht'⟩ := ex.choose_spec
    rw [e] at e'
    cases e'
    have := I.tuple_inj ht ht'
    simp at this
    exact Prod.ext this.1.symm this.2.symm
  have hx : ∀ x ∈ xs, ∃ t, x = V.ref t ∧ SqT X.K H t [.int (k x).1, .int (k x).2] := fun x m => by
    obtain ⟨i, hi, rfl⟩ := List.getElem_of_mem m
    rw [hk i hi (by omega)]
    exact hps i hi (by omega)
  have emap : xs.map k = ps := by
    apply List.ext_getElem
    · rw [List.length_map]; exact hlen
    · intro i h1 h2
      rw [List.getElem_map]
      exact hk i (by rw [List.length_map] at h1; exact h1) h2
  obtain ⟨e1, e2⟩ := refs_back rv fun x m => by
    obtain ⟨t, e, _⟩ := hx x m
    exact ⟨t, e⟩
  refine SrtO.sorted_pairsO (k := fun u => k (backV u)) hl.isList (by rw [← rv.length]; exact hz) (fun v hv => ?_) fun h' d out h1 h2 kp hd hn => ?_
  · obtain ⟨t, rfl⟩ := e2 v hv
    have hm : V.ref t ∈ xs := by rw [e1]; exact List.mem_map.mpr ⟨_, hv, rfl⟩
    obtain ⟨t', e, ht⟩ := hx _ hm
    cases e
    obtain ⟨its2, r2, ⟨o, ho, hc, n, hd⟩, _⟩ := I.tuple ht
    obtain ⟨u1, u2, rfl, ri, rj⟩ := vals2 r2
    obtain ⟨t1, rfl⟩ := ri
    obtain ⟨t2, rfl⟩ := rj
    exact ⟨t, o, t1, t2, n, rfl, ho, hc, hd⟩
  · have h3 : ∀ u ∈ out, ∃ a, u = Value.ref a := fun u hu => e2 u (h2.perm.mem_iff.mp hu)
    obtain ⟨n, hn⟩ := hn
    have hb : SrtO.Stb (ltP k) (out.map backV) xs := by
      rw [e1]
      exact SrtO.Stb.map (ltP_swo k) backV h2
    refine ⟨.ref d, upd H d (.lst (out.map backV)), I.laid (t' := s.toks) kp hd ⟨?_, out, n, vals_back h3, hn⟩, rfl, q (out.map backV) ((out.map backV).map k) d (List.length_map ..).symm ?_ ?_ (I.hok.fresh hd)⟩
    · rw [hb.len]
      exact hz
    · have zz : ∀ l : List V, (l.zip (l.map k)) = l.map fun v => (v, k v) := fun l => by
        induction l with
        | nil => rfl
        | cons a l ih => rw [List.map_cons, List.zip_cons_cons, ih, List.map_cons]
      rw [← emap, zz, zz]
      exact hb.perm.map _
    · exact List.pairwise_map.mpr (SrtO.srtd_map h1)
end
def prD (p : Int × Int) : D := .tup [.int p.1, .int p.2]
theorem ra_prs {K : PySem.W.Frag} {w : Hs} {S : Sto} (g : Good K w S) : ∀ {vs : List V} {ps : List (Int × Int)}, Ra K w vs (ps.map prD) → Prs K w.H vs ps
  | _, [], r => by
    cases r
    exact ⟨rfl, fun i h1 => absurd h1 (by simp)⟩
  | _, p :: ps, r => by
    cases r with
    | cons r1 r2 =>
      obtain ⟨hl, h⟩ := ra_prs g r2
      refine ⟨by rw [List.length_cons, List.length_cons, hl], fun i h1 h2 => ?_⟩
      cases i with
      | zero =>
        cases r1 with
        | tup hq ha =>
          rw [ra_ints (ns := [p.1, p.2]) ha] at hq
          exact ⟨_, rfl, sameSqt g.sub hq⟩
      | succ i =>
        have := h i (by simpa using h1) (by simpa using h2)
        simpa using this
theorem ra_zip {K : PySem.W.Frag} {w : Hs} : ∀ {vs : List V} {ps : List (Int × Int)}, Ra K w vs (ps.map prD) → ∀ z ∈ vs.zip ps, Rv K w z.1 (prD z.2)
  | _, [], r, z, hz => by rw [List.zip_nil_right] at hz; cases hz
  | _, p :: ps, r, z, hz => by
    cases r with
    | cons r1 r2 =>
      rcases List.mem_cons.mp hz with rfl | hz
      · exact r1
      · exact ra_zip r2 z hz
theorem zip_ra {K : PySem.W.Frag} {w : Hs} : ∀ {vs : List V} {ps : List (Int × Int)}, vs.length = ps.length → (∀ z ∈ vs.zip ps, Rv K w z.1 (prD z.2)) → Ra K w vs (ps.map prD)
  | [], [], _, _ => .nil
  | [], _ :: _, h, _ => absurd h (by simp)
  | _ :: _, [], h, _ => absurd h (by simp)
  | v :: vs, p :: ps, hl, h => .cons (h (v, p) (List.mem_cons_self)) (zip_ra (by simpa using hl) fun z hz => h z (List.mem_cons_of_mem _ hz))
theorem zip_perm {α β : Type} : ∀ {xs ys : List α} {ps qs : List β}, xs.length = ps.length → ys.length = qs.length → (ys.zip qs).Perm (xs.zip ps) → qs.Perm ps := fun h1 h2 h => by
  have := h.map Prod.snd
  rw [List.map_snd_zip (by omega), List.map_snd_zip (by omega)] at this
  exact this
def cSortQ (ds : List D) (S : Sto) (Φ : KD) : Prop := match ds with
  | [d] => ∃ ps : List (Int × Int), asQ S d = some (ps.map prD) ∧ ∀ qs : List (Int × Int), qs.Perm ps → qs.Pairwise (fun a b => SrtO.lexB b a = false) → Φ S (.lst (qs.map prD))
  | _ => False
theorem cd_sortQ {K : PySem.W.Frag} : CallD K (rSortQ K) cSortQ := fun w S vs ds Φ Q g r h q => by
  cases ds with
  | nil => exact h.elim
  | cons d t =>
    cases t with
    | cons _ _ => exact h.elim
    | nil =>
      obtain ⟨ps, e, h⟩ := h
      obtain ⟨v, rfl, r1⟩ := one_of r
      obtain ⟨a, ys, rfl, hs, ra⟩ := asQ_at g r1 e
      have rp := ra_prs g ra
      exact ⟨a, ys, ps, rfl, hs, rp, fun zs qs p hl hp h2 hn => new_lst g q (zip_ra hl fun z hz => ra_zip ra z (hp.mem_iff.mp hz)) (h qs (zip_perm rp.1 hl hp) h2) p hn⟩
section
variable {X : Cx} {W : WX} {e : Expr} {te : TE} {Te : TD}
def dLenSet (T : TD) : TD := fun Γ S Φ Ψ => T Γ S (fun S1 d => ∃ ns : List Int, asQ S1 d = some (ns.map D.int) ∧ ns.Nodup ∧ ns.length ≤ 4000 ∧ Φ S1 (.int ns.length)) Ψ
variable {Γ : Gam} {S : Sto} {Φ : KD} {Ψ : KX}
theorem dLenSet_e {T : TD} : dLenSet T Γ S Φ Ψ = T Γ S (fun S1 d => ∃ ns : List Int, asQ S1 d = some (ns.map D.int) ∧ ns.Nodup ∧ ns.length ≤ 4000 ∧ Φ S1 (.int ns.length)) Ψ := rfl
end
section
variable {X : Cx} {W : WX} {a b c d : Expr} {ta tb tc td : TE} {Ta Tb Tc Td : TD} {pos : Pos}
def bChain3 (f g h : D → D → Sto → KD → Prop) (Ta Tb Tc Td : TD) : TB := fun Γ S Φ Ψ => Ta Γ S (fun S1 x => Tb Γ S1 (fun S2 y => f x y S2 fun S3 z => ∃ k, z = .bl k ∧ (if k = true then Tc Γ S3 (fun S4 u => g y u S4 fun S5 z2 => ∃ k2, z2 = .bl k2 ∧ (if k2 = true then Td Γ S5 (fun S6 v => h u v S6 fun S7 z3 => ∃ k3, z3 = .bl k3 ∧ Φ S7 k3) Ψ else Φ S5 false)) Ψ else Φ S3 false)) Ψ) Ψ
variable {Γ : Gam} {S : Sto} {Φ : Sto → Bool → Prop} {Ψ : KX}
theorem bChain3_e {f g h : D → D → Sto → KD → Prop} : bChain3 f g h Ta Tb Tc Td Γ S Φ Ψ = Ta Γ S (fun S1 x => Tb Γ S1 (fun S2 y => f x y S2 fun S3 z => ∃ k, z = .bl k ∧ (if k = true then Tc Γ S3 (fun S4 u => g y u S4 fun S5 z2 => ∃ k2, z2 = .bl k2 ∧ (if k2 = true then Td Γ S5 (fun S6 v => h u v S6 fun S7 z3 => ∃ k3, z3 = .bl k3 ∧ Φ S7 k3) Ψ else Φ S5 false)) Ψ else Φ S3 false)) Ψ) Ψ := rfl
end
section
variable {X : Cx} {W : WX} {e e2 : Expr} {te te2 : TE} {Te Te2 : TD}
def dLRg2 (T U : TD) : TD := fun Γ S Φ Ψ => T Γ S (fun S1 x => U Γ S1 (fun S2 y => ∃ i n : Nat, x = .int i ∧ y = .int ((i + n : Nat) : Int) ∧ i + n ≤ 1000000 ∧ Φ S2 (.lst (rngD i n))) Ψ) Ψ
theorem ra_rg2 {K : PySem.W.Frag} {w : Hs} (i n : Nat) : Ra K w (rgV i ((i + n : Nat) : Int)) (rngD i n) := by
  unfold rgV rngD
  rw [show (((i + n : Nat) : Int) - (i : Int)).toNat = n by omega]
  generalize List.range n = l
  induction l with
  | nil => exact .nil
  | cons a l ih => exact .cons (.int _) ih
theorem je_lrg2 {p p2 pos pos2 : Pos} (hc : X.calm = true) (hgr : Gl X "range") (hmr : X.mg "range" = none) (hg : Gl X "list") (hm : X.mg "list" = none) (he : JE X W e te Te) (he2 : JE X W e2 te2 Te2)
    (na : starEach [e, e2] X.env = (false, eval e X.env) :: starEach [e2] X.env := by rfl) (nb : starEach [e2] X.env = (false, eval e2 X.env) :: starEach [] X.env := by rfl) (hp : (backTo pos2 (starEach [e2] X.env)).any (·.1) = false := by rfl)
    (na2 : starEach [.Call (.Name "range" p2) [e, e2] [] pos2] X.env = (false, eval (.Call (.Name "range" p2) [e, e2] [] pos2) X.env) :: starEach [] X.env := by rfl) :
    JE X W (.Call (.Name "list" p) [.Call (.Name "range" p2) [e, e2] [] pos2] [] pos) (tLstRg (tRg2 te te2)) (dLRg2 Te Te2) :=
  ⟨pe_listRg hc hg hm (prg_2 hgr hmr he.pe he2.pe na nb hp) na2, fun Γ S Φ Ψ σ w g sl hT hx Q q => he.sem Γ S _ Ψ σ w g sl hT hx _ fun v d w1 S1 e1 g1 r1 h1 =>
    he2.sem Γ S1 _ Ψ σ w1 g1 (sl.ext e1) h1 (hx.ext e1) _ fun v2 d2 w2 S2 e2 g2 r2 ⟨i, n, ed, ed2, hn, h⟩ => by
      subst ed ed2
      exact ⟨i, ((i + n : Nat) : Int), rv_int (e2.rp r1), rv_int r2, RgOk.of_le (by omega) (by omega) (by omega) (by omega), fun p hp => new_lst g2 (q.ext (e1.trans e2)) (ra_rg2 i n) h p hp⟩⟩
variable {Γ : Gam} {S : Sto} {Φ : KD} {Ψ : KX}
theorem dLRg2_e {T U : TD} : dLRg2 T U Γ S Φ Ψ = T Γ S (fun S1 x => U Γ S1 (fun S2 y => ∃ i n : Nat, x = .int i ∧ y = .int ((i + n : Nat) : Int) ∧ i + n ≤ 1000000 ∧ Φ S2 (.lst (rngD i n))) Ψ) Ψ := rfl
end
section
def dwD (i : Int) (n : Nat) : List D := (List.range n).map fun (k : Nat) => D.int (i - (k : Int))
def iRg3 (T : TL) : TId := fun Γ S Φ Ψ => T Γ S (fun S1 ds => ∃ i j, ds = [.int i, .int j, .int (-1)] ∧ (-(2 ^ 62) ≤ i ∧ i < 2 ^ 62 ∧ -(2 ^ 62) ≤ j ∧ j < 2 ^ 62) ∧ Φ S1 (fun _ => some (dwD i (i - j).toNat))) Ψ
variable {X : Cx} {W : WX} {a b c tg : Expr} {tl : TA} {Tl : TL} {p pos : Pos}
variable {Γ : Gam} {S : Sto} {Ψ : KX}
theorem iRg3_e {T : TL} {Φ : Sto → Src → Prop} : iRg3 T Γ S Φ Ψ = T Γ S (fun S1 ds => ∃ i j, ds = [.int i, .int j, .int (-1)] ∧ (-(2 ^ 62) ≤ i ∧ i < 2 ^ 62 ∧ -(2 ^ 62) ≤ j ∧ j < 2 ^ 62) ∧ Φ S1 (fun _ => some (dwD i (i - j).toNat))) Ψ := rfl
end
end DL
namespace DL
open PySem PySem.Spec PyProof.Rows L2
section
variable {X : Cx} {W : WX}
/-- [elt for tg in iter if .. for tg1 in iter1 if ..] -/
def dLc2 (I : TId) (G : TGd) (C : TB) (T1 : TD) (G1 : TGd) (C1 : TB) (Te : TD) (vs vs1 : List Nat) (Fin : List D → Sto → KD → Prop) : TD := fun Γ S Φ Ψ => I Γ S (fun S1 src => ∃ (P : Nat → List D → Sto → Prop) (n : Nat), P 0 [] S1 ∧
  (∀ i acc S', i ≤ n → P i acc S' → ∃ ds, src S' = some ds ∧ ds.length = n) ∧
  (∀ i acc S' ds d, P i acc S' → src S' = some ds → ds[i]? = some d → G d (gwipe Γ vs) S' fun Γ2 S2 => C Γ2 S2 (fun S3 k => if k = true then
      T1 Γ2 S3 (fun S4 d4 => (∃ ds, asQ S4 d4 = some ds) ∧ ∃ (P1 : Nat → List D → Sto → Prop) (n1 : Nat), P1 0 acc S4 ∧
        (∀ j acc1 S5, j ≤ n1 → P1 j acc1 S5 → ∃ ds1, asQ S5 d4 = some ds1 ∧ ds1.length = n1) ∧
        (∀ j acc1 S5 ds1 d1, P1 j acc1 S5 → asQ S5 d4 = some ds1 → ds1[j]? = some d1 → G1 d1 (gwipe Γ2 vs1) S5 fun Γ3 S6 => C1 Γ3 S6 (fun S7 k1 => if k1 = true then Te Γ3 S7 (fun S8 y => acc1.length < sizeLine ∧ P1 (j + 1) (acc1 ++ [y]) S8) (fun _ _ => False) else P1 (j + 1) acc1 S7) (fun _ _ => False)) ∧
        (∀ acc1 S5, P1 n1 acc1 S5 → P (i + 1) acc1 S5)) (fun _ _ => False) else P (i + 1) acc S3) (fun _ _ => False)) ∧
  (∀ acc S', P n acc S' → Fin acc S' Φ)) Ψ
end
/-- a part of a tuple, not the whole -/
def dSlT (d : D) (lo hi : Option Int) (S : Sto) (Φ : KD) : Prop := ∃ ds, d = .tup ds ∧ ¬ (HT.sIx ds.length 0 lo = 0 ∧ HT.sIx ds.length ds.length hi = ds.length) ∧ Φ S (.tup (cutD ds lo hi))
theorem sld_t {K : PySem.W.Frag} : SlD K (rSlT K) dSlT := fun w S v d lo hi Φ Q g r ⟨ds, e, hw, h⟩ q => by
  subst e
  cases r with
  | @tup a xs _ h1 ra =>
    refine ⟨a, xs, rfl, sameSqt g.sub h1, by rw [ra.length]; exact hw, fun p hp => ?_⟩
    have e := Ext.frz g (.tup (cutV xs lo hi)) hp
    exact q _ _ _ S e (g.frz _ hp) (.tup (.inl (.inl upd_same)) (e.ra (ra_cut ra lo hi))) h
section
variable {Γ : Gam} {S : Sto} {Φ : KD} {Ψ : KX}
theorem dSlT_t {ds : List D} {lo hi : Option Int} : dSlT (.tup ds) lo hi S Φ = (¬ (HT.sIx ds.length 0 lo = 0 ∧ HT.sIx ds.length ds.length hi = ds.length) ∧ Φ S (.tup (cutD ds lo hi))) := propext ⟨fun ⟨_, e, h⟩ => by cases e; exact h, fun h => ⟨_, rfl, h⟩⟩
theorem dLc2_e {I : TId} {G G1 : TGd} {C C1 : TB} {T1 Te : TD} {vs vs1 : List Nat} {Fin : List D → Sto → KD → Prop} : dLc2 I G C T1 G1 C1 Te vs vs1 Fin Γ S Φ Ψ = I Γ S (fun S1 src => ∃ (P : Nat → List D → Sto → Prop) (n : Nat), P 0 [] S1 ∧
  (∀ i acc S', i ≤ n → P i acc S' → ∃ ds, src S' = some ds ∧ ds.length = n) ∧
  (∀ i acc S' ds d, P i acc S' → src S' = some ds → ds[i]? = some d → G d (gwipe Γ vs) S' fun Γ2 S2 => C Γ2 S2 (fun S3 k => if k = true then
      T1 Γ2 S3 (fun S4 d4 => (∃ ds, asQ S4 d4 = some ds) ∧ ∃ (P1 : Nat → List D → Sto → Prop) (n1 : Nat), P1 0 acc S4 ∧
        (∀ j acc1 S5, j ≤ n1 → P1 j acc1 S5 → ∃ ds1, asQ S5 d4 = some ds1 ∧ ds1.length = n1) ∧
        (∀ j acc1 S5 ds1 d1, P1 j acc1 S5 → asQ S5 d4 = some ds1 → ds1[j]? = some d1 → G1 d1 (gwipe Γ2 vs1) S5 fun Γ3 S6 => C1 Γ3 S6 (fun S7 k1 => if k1 = true then Te Γ3 S7 (fun S8 y => acc1.length < sizeLine ∧ P1 (j + 1) (acc1 ++ [y]) S8) (fun _ _ => False) else P1 (j + 1) acc1 S7) (fun _ _ => False)) ∧
        (∀ acc1 S5, P1 n1 acc1 S5 → P (i + 1) acc1 S5)) (fun _ _ => False) else P (i + 1) acc S3) (fun _ _ => False)) ∧
  (∀ acc S', P n acc S' → Fin acc S' Φ)) Ψ := rfl
end
end DL
namespace DL
open PySem PySem.Spec PyProof.Rows L2
/-- the dict of the modules is known as such -/
def ModK (K : PySem.W.Frag) : Prop := ∃ o, K.lookup sysModules = some o ∧ o.cls = .type "dict"
def bModK : FaX := fun K => match K.lookup sysModules with
  | some o => decide (o.cls = .type "dict")
  | none => false
theorem bModK_ok {K : PySem.W.Frag} (h : bModK K = true) : ModK K := by
  unfold bModK at h
  split at h
  · rename_i o e
    exact ⟨o, e, of_decide_eq_true h⟩
  · cases h
def keyP : Key → PyData
  | .inl i => .int i
  | .inr x => .str x
mutual
inductive DpX (K : PySem.W.Frag) (H : Hp) : V → PyData → Prop
  | non : DpX K H .non .none
  | bl (b : Bool) : DpX K H (.bl b) (.bool b)
  | int (i : Int) : DpX K H (.int i) (.int i)
  | str (x : Str) : DpX K H (.str x) (.str x)
  | lst {a : Addr} {xs : List V} {ds : List PyData} : SqL K H a xs → DpXA K H xs ds → DpX K H (.ref a) (.list ds)
  | tup {a : Addr} {xs : List V} {ds : List PyData} : SqT K H a xs → DpXA K H xs ds → DpX K H (.ref a) (.tuple ds)
  | dic {a : Addr} {vs : List (Key × V)} {ps : List (PyData × PyData)} : H a = some (.dK vs) → DpXK K H vs ps → DpX K H (.ref a) (.dict ps)
inductive DpXA (K : PySem.W.Frag) (H : Hp) : List V → List PyData → Prop
  | nil : DpXA K H [] []
  | cons {v : V} {vs : List V} {d : PyData} {ds : List PyData} : DpX K H v d → DpXA K H vs ds → DpXA K H (v :: vs) (d :: ds)
inductive DpXK (K : PySem.W.Frag) (H : Hp) : List (Key × V) → List (PyData × PyData) → Prop
  | nil : DpXK K H [] []
  | cons {k : Key} {v : V} {vs : List (Key × V)} {d : PyData} {ds : List (PyData × PyData)} : DpX K H v d → DpXK K H vs ds → DpXK K H ((k, v) :: vs) ((keyP k, d) :: ds)
end
section
variable {X : Cx} {pins : List (Addr × Obj)} {σ : L2.St} {H : Hp} {s : Shared}
theorem mod_free (I : L2.Inv X pins σ H s) (hM : ModK X.K) : H sysModules = none := by
  obtain ⟨o, e, _⟩ := hM
  have b := I.ok.mod.kin _ _ e
  obtain ⟨h1, h2⟩ := I.ok.bs _ _ b
  exact I.base.free _ _ h1 h2 (I.ok.noex _ _ b)
theorem not_mod (I : L2.Inv X pins σ H s) (hM : ModK X.K) {a : Addr} {xs : List V} (h : SqL X.K H a xs) : a ≠ sysModules := by
  rintro rfl
  rcases h with (h | ⟨o, h⟩) | ⟨o, _, _, h, hc, _⟩
  · rw [mod_free I hM] at h; cases h
  · rw [mod_free I hM] at h; cases h
  · obtain ⟨o2, e, c⟩ := hM
    rw [e] at h
    cases h
    rw [hc] at c
    injection c with c
    exact absurd c (by decide)
theorem key_reads {h : Heap} {k : Key} {u : Value} (e : keyIs k u = true) : Reads h u (keyP k) [] := by
  cases k with
  | inl i =>
    cases u <;> first | (exact absurd e Bool.false_ne_true) | (have e : (_ == _) = true := e; rw [beq_iff_eq] at e; subst e; exact .int _ _)
  | inr x =>
    cases u <;> first | (exact absurd e Bool.false_ne_true) | (have e : (_ == _) = true := e; rw [beq_iff_eq] at e; subst e; exact .str _ _)
mutual
theorem DpX.reads (I : L2.Inv X pins σ H s) (hM : ModK X.K) : ∀ (d : PyData) (v : V) (u : Value), DpX X.K H v d → RelV v u → ∃ as, Reads s.heap u d as ∧ sysModules ∉ as
  | .none, _, u, h, r => by
    cases h
    have r : u = .none := r
    subst r
    exact ⟨[], .none, fun z => nomatch z⟩
  | .bool b, _, u, h, r => by
    cases h
    have r : u = .bool b := r
    subst r
    exact ⟨[], .bool b, fun z => nomatch z⟩
  | .int i, _, u, h, r => by
    cases h
    obtain ⟨t, r⟩ : ∃ t, u = .int i t := r
    subst r
    exact ⟨[], .int i t, fun z => nomatch z⟩
  | .str x, _, u, h, r => by
    cases h
    obtain ⟨t, r⟩ : ∃ t, u = .str x t := r
    subst r
    exact ⟨[], .str x t, fun z => nomatch z⟩
  | .list ds, _, u, h, r => by
    cases h with
    | @lst a xs _ hs ha =>
      have r : u = .ref a := r
      subst r
      obtain ⟨its, rv, pl, _⟩ := I.list hs
      obtain ⟨as, h1, h2⟩ := DpXA.reads I hM ds xs its ha rv
      obtain ⟨o, n, ho, hc, _, hd⟩ := pl
      exact ⟨a :: as, .list ho hc hd (by rw [List.toList_toArray]; exact h1), fun z => (List.mem_cons.mp z).elim (fun e => not_mod I hM hs e.symm) h2⟩
  | .tuple ds, _, u, h, r => by
    cases h with
    | @tup a xs _ hs ha =>
      have r : u = .ref a := r
      subst r
      obtain ⟨its, rv, pl, _⟩ := I.tuple hs
      obtain ⟨as, h1, h2⟩ := DpXA.reads I hM ds xs its ha rv
      obtain ⟨o, ho, hc, n, hd⟩ := pl
      exact ⟨as, .tuple ho hc hd (by rw [List.toList_toArray]; exact h1), h2⟩
  | .dict ps, _, u, h, r => by
    cases h with
    | @dic a vs _ hs ha =>
      have r : u = .ref a := r
      subst r
      obtain ⟨_, ne, ws, kv, o, es, ep, ho, ⟨c1, _, _⟩, hd, _, pr, _⟩ := I.hok a _ hs
      obtain ⟨as, h1, h2, h3⟩ := DpXK.reads I hM ps vs ws es.toList ha kv pr
      exact ⟨a :: [] ++ as, .dict ho c1 hd h1 h2, fun z => (List.mem_cons.mp z).elim (fun e => by rw [e] at ne; simp at ne) h3⟩
theorem DpXA.reads (I : L2.Inv X pins σ H s) (hM : ModK X.K) : ∀ (ds : List PyData) (vs : List V) (us : List Value), DpXA X.K H vs ds → Vals vs us → ∃ as, ReadsAll s.heap us ds as ∧ sysModules ∉ as
  | [], _, us, h, r => by
    cases h
    cases r
    exact ⟨[], .nil, fun z => nomatch z⟩
  | d :: ds, _, us, h, r => by
    cases h with
    | cons h1 h2 =>
      cases r with
      | cons r1 r2 =>
        obtain ⟨as, a1, a2⟩ := DpX.reads I hM d _ _ h1 r1
        obtain ⟨bs, b1, b2⟩ := DpXA.reads I hM ds _ _ h2 r2
        exact ⟨as ++ bs, .cons a1 b1, fun z => (List.mem_append.mp z).elim a2 b2⟩
theorem DpXK.reads (I : L2.Inv X pins σ H s) (hM : ModK X.K) : ∀ (ps : List (PyData × PyData)) (vs : List (Key × V)) (ws : List (Key × Value)) (es : List DictEntry), DpXK X.K H vs ps → KV vs ws → Pairs (mixKind X.prog X.w) es ws →
    ∃ as, ReadsAll s.heap (es.map (·.key)) (ps.map (·.1)) [] ∧ ReadsAll s.heap (es.map (·.val)) (ps.map (·.2)) as ∧ sysModules ∉ as
  | [], _, ws, es, h, r, q => by
    cases h
    cases r
    cases q
    exact ⟨[], .nil, .nil, fun z => nomatch z⟩
  | p :: ps, _, ws, es, h, r, q => by
    cases h with
    | cons h1 h2 =>
      cases r with
      | cons r1 r2 =>
        cases q with
        | cons q1 q2 q3 =>
          obtain ⟨e1, e2⟩ := r1
          obtain ⟨as, a1, a2⟩ := DpX.reads I hM _ _ _ h1 e2
          obtain ⟨bs, b1, b2, b3⟩ := DpXK.reads I hM ps _ _ _ h2 r2 q3
          refine ⟨as ++ bs, ?_, ?_, fun z => (List.mem_append.mp z).elim a2 b3⟩
          · have k1 := key_reads (h := s.heap) (show keyIs _ _ = true from q1)
            rw [← e1] at k1
            exact .cons (as := []) k1 b1
          · rw [List.map_cons, List.map_cons, q2]
            exact .cons a1 b2
end
end
/-- what repr takes -/
structure ShwX (p : PyData) : Prop where
  s : p.showable = true
  dp : p.depth ≤ 60
  l : p.shown.length ≤ sizeLine
def rReprX (K : PySem.W.Frag) : List V → Hp → VK → Prop := fun xs H Q => ∃ v p, xs = [v] ∧ DpX K H v p ∧ ShwX p ∧ (∀ i, v = .int i → i.natAbs.log2 < 1920) ∧ Q (.str p.shown) H
theorem call_reprX {X : Cx} (hM : ModK X.K) (hG : X.A.guards = some []) (hu : X.A.units + 64 < cLine) : CallR X (.builtin "repr") (rReprX X.K) := by
  intro pins s σ H xs us Q I r h
  obtain ⟨v, p, rfl, hd, hs, hi, q⟩ := h
  obtain ⟨u, rfl, ru⟩ := vals1 r
  have kp : ∀ t, L2.Inv X pins σ H { s with toks := t } := fun t => I.kept (fun _ _ e => e)
  cases hd with
  | non =>
    have ru : u = .none := ru
    subst ru
    exact PySem.P.repr_of_none ⟨.str _, H, kp _, ⟨_, rfl⟩, by rw [PyData.shown_none] at q; exact q⟩
  | bl b =>
    have ru : u = .bool b := ru
    subst ru
    exact PySem.P.repr_of_bool ⟨.str _, H, kp _, ⟨_, rfl⟩, by rw [PyData.shown_bool] at q; exact q⟩
  | int i =>
    obtain ⟨t, ru⟩ : ∃ t, u = .int i t := ru
    subst ru
    exact PySem.P.repr_of_int (hi i rfl) ⟨.str _, H, kp _, ⟨_, rfl⟩, by rw [PyData.shown_int] at q; exact q⟩
  | str x =>
    obtain ⟨t, ru⟩ : ∃ t, u = .str x t := ru
    subst ru
    have hl := hs.l
    rw [PyData.shown_str] at q hl
    exact PySem.P.repr_of_str ⟨.str _, H, kp _, ⟨_, rfl⟩, q⟩ hl
  | @lst a xs ds h1 h2 =>
    have ru : u = .ref a := ru
    subst ru
    obtain ⟨as, hr, hn⟩ := DpX.reads I hM (.list ds) (.ref a) (.ref a) (.lst h1 h2) rfl
    exact repr_of_reads' hr hs.s (fun _ => hn) hG (by have := hs.dp; omega) (fun _ _ e => e) (fun h' u tk hk => ⟨.str _, H, I.kept hk, ⟨_, rfl⟩, q⟩) hs.l
  | @tup a xs ds h1 h2 =>
    have ru : u = .ref a := ru
    subst ru
    obtain ⟨as, hr, hn⟩ := DpX.reads I hM (.tuple ds) (.ref a) (.ref a) (.tup h1 h2) rfl
    exact repr_of_reads' hr hs.s (fun _ => hn) hG (by have := hs.dp; omega) (fun _ _ e => e) (fun h' u tk hk => ⟨.str _, H, I.kept hk, ⟨_, rfl⟩, q⟩) hs.l
  | @dic a xs ds h1 h2 =>
    have ru : u = .ref a := ru
    subst ru
    obtain ⟨as, hr, hn⟩ := DpX.reads I hM (.dict ds) (.ref a) (.ref a) (.dic h1 h2) rfl
    exact repr_of_reads' hr hs.s (fun _ => hn) hG (by have := hs.dp; omega) (fun _ _ e => e) (fun h' u tk hk => ⟨.str _, H, I.kept hk, ⟨_, rfl⟩, q⟩) hs.l
mutual
inductive PyX (S : Sto) : D → PyData → Prop
  | non : PyX S .non .none
  | bl (b : Bool) : PyX S (.bl b) (.bool b)
  | int (i : Int) : PyX S (.int i) (.int i)
  | str (x : Str) : PyX S (.str x) (.str x)
  | lst {ds : List D} {ps : List PyData} : PyXA S ds ps → PyX S (.lst ds) (.list ps)
  | sq {ds : List D} {ps : List PyData} : PyXA S ds ps → PyX S (.sq ds) (.list ps)
  | tup {ds : List D} {ps : List PyData} : PyXA S ds ps → PyX S (.tup ds) (.tuple ps)
  | own {h : Nat} {ds : List D} {ps : List PyData} : S[h]? = some (.lst ds) → PyXA S ds ps → PyX S (.own h) (.list ps)
  | dic {ks : List (Key × D)} {ps : List (PyData × PyData)} : PyXK S ks ps → PyX S (.dic ks) (.dict ps)
inductive PyXA (S : Sto) : List D → List PyData → Prop
  | nil : PyXA S [] []
  | cons {d : D} {ds : List D} {p : PyData} {ps : List PyData} : PyX S d p → PyXA S ds ps → PyXA S (d :: ds) (p :: ps)
inductive PyXK (S : Sto) : List (Key × D) → List (PyData × PyData) → Prop
  | nil : PyXK S [] []
  | cons {k : Key} {d : D} {ds : List (Key × D)} {p : PyData} {ps : List (PyData × PyData)} : PyX S d p → PyXK S ds ps → PyXK S ((k, d) :: ds) ((keyP k, p) :: ps)
end
section
variable {K : PySem.W.Frag} {w : Hs} {S : Sto}
mutual
theorem dpx_of (g : Good K w S) : ∀ (p : PyData) (d : D) (v : V), PyX S d p → Rv K w v d → DpX K w.H v p
  | .none, _, _, h, r => by cases h; cases r; exact .non
  | .bool _, _, _, h, r => by cases h; cases r; exact .bl _
  | .int _, _, _, h, r => by cases h; cases r; exact .int _
  | .str _, _, _, h, r => by cases h; cases r; exact .str _
  | .list ps, _, _, h, r => by
    cases h with
    | lst h1 =>
      cases r with
      | lst h2 h3 => exact .lst (.inl (.inl (g.sub _ _ h2))) (dpxa_of g ps _ _ h1 h3)
    | sq h1 =>
      cases r with
      | sq h2 h3 => exact .lst (sameSql g.sub h2) (dpxa_of g ps _ _ h1 h3)
    | own h1 h2 =>
      obtain ⟨a, xs, rfl, _, h3, h4⟩ := own_at g r h1
      exact .lst (.inl (.inl h3)) (dpxa_of g ps _ _ h2 h4)
  | .tuple ps, _, _, h, r => by
    cases h with
    | tup h1 =>
      cases r with
      | tup h2 h3 => exact .tup (sameSqt g.sub h2) (dpxa_of g ps _ _ h1 h3)
  | .dict ps, _, _, h, r => by
    cases h with
    | dic h1 =>
      cases r with
      | dic h2 h3 => exact .dic (g.sub _ _ h2) (dpxk_of g ps _ _ h1 h3)
theorem dpxa_of (g : Good K w S) : ∀ (ps : List PyData) (ds : List D) (vs : List V), PyXA S ds ps → Ra K w vs ds → DpXA K w.H vs ps
  | [], _, _, h, r => by cases h; cases r; exact .nil
  | p :: ps, _, _, h, r => by
    cases h with
    | cons h1 h2 =>
      cases r with
      | cons r1 r2 => exact .cons (dpx_of g p _ _ h1 r1) (dpxa_of g ps _ _ h2 r2)
theorem dpxk_of (g : Good K w S) : ∀ (ps : List (PyData × PyData)) (ds : List (Key × D)) (vs : List (Key × V)), PyXK S ds ps → RpK K w.F w.al vs ds → DpXK K w.H vs ps
  | [], _, _, h, r => by cases h; cases r; exact .nil
  | p :: ps, _, _, h, r => by
    cases h with
    | cons h1 h2 =>
      cases r with
      | cons r1 r2 => exact .cons (dpx_of g _ _ _ h1 r1) (dpxk_of g ps _ _ h2 r2)
end
end
def cReprX (ds : List D) (S : Sto) (Φ : KD) : Prop := match ds with
  | [d] => ∃ p, PyX S d p ∧ ShwX p ∧ (∀ i, d = .int i → i.natAbs.log2 < 1920) ∧ Φ S (.str p.shown)
  | _ => False
theorem cd_reprX {K : PySem.W.Frag} : CallD K (rReprX K) cReprX := fun w S vs ds Φ Q g r h q => by
  cases ds with
  | nil => exact h.elim
  | cons d t =>
    cases t with
    | cons _ _ => exact h.elim
    | nil =>
      obtain ⟨p, h3, h4, hi, h5⟩ := h
      obtain ⟨v, rfl, rv⟩ := one_of r
      refine ⟨v, p, rfl, dpx_of g p d v h3 rv, h4, fun i e => hi i ?_, q _ _ w S (Ext.refl w) g (.str _) h5⟩
      subst e
      cases rv
      rfl
def dDic1 (T : TD) (k : Str) : TD := fun Γ S Φ Ψ => T Γ S (fun S1 d => Φ S1 (.dic [(.inr k, d)])) Ψ
def dDic0 : TD := fun Γ S Φ Ψ => Φ S (.dic [])
section
variable {X : Cx} {W : WX} {e : Expr} {te : TE} {Te : TD} {pos p : Pos} {j : Nat} {k : Str}
/-- an object in the making, tracked from here on -/
theorem Good.made {K : PySem.W.Frag} {w : Hs} {S : Sto} (g : Good K w S) {p : Addr} (o : HO) (hF : w.F p = none) (hA : p ∉ w.al) : Good K ⟨upd w.F p o, w.al, upd w.H p o⟩ S := by
  refine ⟨fun a x q => ?_, g.nd, g.len, fun n a c q1 q2 => ?_, fun a q => ?_⟩
  · have q2 : upd w.F p o a = some x := q
    show upd w.H p o a = some x
    by_cases z : a = p
    · subst z; rw [upd_same] at q2 ⊢; exact q2
    · rw [upd_ne z] at q2 ⊢; exact g.sub a x q2
  · have hne : a ≠ p := fun z => hA (z ▸ List.mem_of_getElem? q1)
    have eF : ∀ b x, w.F b = some x → upd w.F p o b = some x := updF hF
    cases c with
    | gone => exact True.intro
    | lst ds =>
      obtain ⟨h1, ys, h2, h3⟩ := g.cell n a _ q1 q2
      exact ⟨by show upd w.F p o a = none; rw [upd_ne hne]; exact h1, ys, by show upd w.H p o a = _; rw [upd_ne hne]; exact h2, RpA.mono eF (fun _ _ z => z) ds ys h3⟩
    | ins C fs =>
      obtain ⟨h1, dx, ys, h2, h3⟩ := g.cell n a _ q1 q2
      exact ⟨by show upd w.F p o a = none; rw [upd_ne hne]; exact h1, dx, ys, by show upd w.H p o a = _; rw [upd_ne hne]; exact h2, RpF.mono eF (fun _ _ z => z) fs ys h3⟩
    | dct ks =>
      obtain ⟨h1, us, h2, h3⟩ := g.cell n a _ q1 q2
      exact ⟨by show upd w.F p o a = none; rw [upd_ne hne]; exact h1, us, by show upd w.H p o a = _; rw [upd_ne hne]; exact h2, h3.mono eF (fun _ _ z => z)⟩
    | dck ks =>
      obtain ⟨h1, us, h2, h3⟩ := g.cell n a _ q1 q2
      exact ⟨by show upd w.F p o a = none; rw [upd_ne hne]; exact h1, us, by show upd w.H p o a = _; rw [upd_ne hne]; exact h2, RpK.mono eF (fun _ _ z => z) ks us h3⟩
    | lck o' us ks =>
      obtain ⟨h1, h2, h3⟩ := g.cell n a _ q1 q2
      exact ⟨by show upd w.F p o a = none; rw [upd_ne hne]; exact h1, by show upd w.H p o a = _; rw [upd_ne hne]; exact h2, RpK.mono eF (fun _ _ z => z) ks us h3⟩
  · show upd w.H p o a ≠ none
    by_cases z : a = p
    · rw [z, upd_same]; exact fun z => nomatch z
    · rw [upd_ne z]; exact g.dom a q
theorem Ext.made {w0 w : Hs} (e : Ext w0 w) {p : Addr} (o : HO) (h0 : w0.H p = none) (hF : w.F p = none) : Ext w0 ⟨upd w.F p o, w.al, upd w.H p o⟩ := by
  refine ⟨fun a x z => updF hF a x (e.f a x z), e.al, fun a x z => ?_, fun a x q n => ?_, fun a q => ?_⟩
  · by_cases y : a = p
    · subst y; exact .inr (.inl h0)
    · have z : upd w.F p o a = some x := z
      rw [upd_ne y] at z
      exact e.new a x z
  · show upd w.H p o a = some x
    rw [upd_ne (ne_of_none q h0)]; exact e.kp a x q n
  · show upd w.H p o a ≠ none
    by_cases z : a = p
    · rw [z, upd_same]; exact fun z => nomatch z
    · rw [upd_ne z]; exact e.dm a q
end
section
variable {Γ : Gam} {S : Sto} {Φ : KD} {Ψ : KX}
theorem dDic0_e : dDic0 Γ S Φ Ψ = Φ S (.dic []) := rfl
theorem dDic1_e {T : TD} {k : Str} : dDic1 T k Γ S Φ Ψ = T Γ S (fun S1 d => Φ S1 (.dic [(.inr k, d)])) Ψ := rfl
end
end DL
namespace DL
open PySem PySem.Spec PyProof.Rows L2
/-- as Room, whatever is handled -/
structure RoomH (k : Nat) (A : Around) : Prop where
  dp : A.depth + 3 * k + 5 < recursionLimit
  un : A.units + 16 * k + 200 < cLine
theorem RoomH.mono {k n : Nat} {A : Around} (r : RoomH k A) (h : n ≤ k) : RoomH n A := ⟨by have := r.dp; omega, by have := r.un; omega⟩
theorem RoomH.deeper {k : Nat} {A : Around} (r : RoomH (k + 1) A) (env : Env) : RoomH k (A.deeper env) :=
  ⟨by have := r.dp; show A.depth + 1 + 3 * k + 5 < _; omega, by have := r.un; show A.units + 3 + 16 * k + 200 < _; omega⟩
theorem RoomH.depth {k : Nat} {A : Around} (r : RoomH k A) : A.depth < recursionLimit := by have := r.dp; omega
theorem RoomH.units {k : Nat} {A : Around} (r : RoomH k A) : A.units + 64 < cLine := by have := r.un; omega
theorem RoomH.mark {k : Nat} {A : Around} (r : RoomH k A) (v : Option Value) : RoomH k (A.mark v) := ⟨r.dp, r.un⟩
end DL
namespace DL
open PySem PySem.Spec PyProof.Rows L2
section
variable (K : PySem.W.Frag) (W : WX)
structure RlF (σ : L2.St) (Γ : Gam) (w : Hs) (D' : EdD) (D : Ends) : Prop where
  nx : ∀ w' S', Ext w w' → Good K w' S' → D'.nx Γ S' → D.nx σ w'.H
  rt : OkD K w D'.rt D.rt
  er : OkX K W w D'.er σ
def SemF (t : TS) (T : TSd) : Prop := ∀ D' Γ S σ w D, Good K w S → Slots K w σ Γ → T D' Γ S → RlF K W σ Γ w D' D → t D σ w.H
end
section
variable {K : PySem.W.Frag} {W : WX} {w w' : Hs}
theorem RlF.ext {σ : L2.St} {Γ : Gam} {D' : EdD} {D : Ends} (h : RlF K W σ Γ w D' D) (e : Ext w w') : RlF K W σ Γ w' D' D := ⟨fun w2 S2 e2 => h.nx w2 S2 (e.trans e2), h.rt.ext e, h.er.ext e⟩
end
structure JF (X : Cx) (W : WX) (st : Stmt) (t : TS) (T : TSd) : Prop where
  ps : PS X st t
  sem : SemF X.K W t T
structure JFB (X : Cx) (W : WX) (st : List Stmt) (t : TS) (T : TSd) : Prop where
  pss : PSs X st t
  sem : SemF X.K W t T
section
variable {X : Cx} {W : WX} {e c : Expr} {pos : Pos} {te : TE} {Te : TD} {st : Stmt} {rest : List Stmt} {t u : TS} {T U : TSd}
theorem jfb_nil : JFB X W [] tNext sNext := ⟨pss_nil, fun D' Γ S σ w D g sl h r => r.nx w S (Ext.refl w) g h⟩
theorem jfb_cons (h1 : JF X W st t T) (h2 : JFB X W rest u U) : JFB X W (st :: rest) (tSeq t u) (sSeq T U) := ⟨pss_cons h1.ps h2.pss, fun D' Γ S σ w D g sl h r =>
  h1.sem { D' with nx := U D' } Γ S σ w { D with nx := u D } g sl h ⟨fun w' S' e' g' h' => h2.sem D' Γ S' σ w' D g' (sl.ext e') h' (r.ext e'), r.rt, r.er⟩⟩
theorem jfb_one (h1 : JF X W st t T) : JFB X W [st] t T := ⟨pss_one h1.ps, h1.sem⟩
theorem jf_ret (he : JE X W e te Te) : JF X W (.Return (some e) pos) (tRet te) (sRet Te) := ⟨ps_ret he.pe, fun D' Γ S σ w D g sl h r => he.sem Γ S _ _ σ w g sl h r.er _ r.rt⟩
theorem jf_if {A B : List Stmt} {tt : TT} {C : TB} (hc : JT X W c tt C) (ha : JFB X W A t T) (hb : JFB X W B u U) : JF X W (.If c A B pos) (tIfS tt t u) (sIf C T U) := ⟨ps_if hc.pt ha.pss hb.pss, fun D' Γ S σ w D g sl h r =>
  hc.sem Γ S _ _ σ w g sl h r.er _ fun k w' S' e' g' h' => by
    cases k with
    | true => exact ha.sem D' Γ S' σ w' D g' (sl.ext e') h' (r.ext e')
    | false => exact hb.sem D' Γ S' σ w' D g' (sl.ext e') h' (r.ext e')⟩
end
section
variable {X : Cx} {σ : L2.St} {H : Hp} {s : Shared} {a : Addr} {oe : Obj} {pins : List (Addr × Obj)}
theorem taken_upH (I : Inv (X.suite a ((a, oe) :: (X.pn ++ pins))) [] σ H s) (ok : X.Ok) (h0 : X.s_0.heap.get? a = none) (hp : ∀ p ∈ X.pn ++ pins, p.1 ≠ a) : Inv (X.suite a (X.pn ++ pins)) [] σ (upd H a (known oe)) s := by
  have J := taken_up I ok h0 hp
  exact ⟨ok.suite _ _, J.os, J.bare, J.base, J.loc, J.cell, J.free, J.freeC, (fun p hm => J.pin p (by rwa [List.append_nil] at hm)), J.hok, J.len⟩
theorem left_suite (I : Inv (X.suite a (X.pn ++ pins)) [] σ H s) (ok : X.Ok) : Inv X pins σ H s :=
  ⟨ok, I.os, I.bare, I.base, I.loc, I.cell, I.free, I.freeC, fun p hm => I.pin p (List.mem_append_left [] hm), I.hok, I.len⟩
end
/-- the ends of a suite whose name stands at i -/
abbrev hotD (i : Nat) (D : Ends) : Ends := { nx := fun σ' H' => D.nx (σ'.set i none) H', rt := D.rt, bk := fun σ' H' => D.bk (σ'.set i none) H', ct := fun σ' H' => D.ct (σ'.set i none) H' }
def wHot (K : PySem.W.Frag) (c : Value) (i : Nat) (ts : TS) (D : Ends) : WX := fun cls d σ H =>
  PySem.W.exmOne K cls c = some true ∧ ∀ (a : Addr) (oe : Obj), H a = none → oe.cls = cls → oe.dict = d → (∃ vs, oe.data = .fields vs) →
    ts (hotD i D) (σ.set i (some (.ref a))) (upd H a (known oe))
section
variable {X : Cx} {x n : Str} {c : Value} {i : Nat} {body suite : List Stmt} {b0 : Stmt} {np pos pos' : Pos} {tb : WX → TS} {ts : TS}
theorem ps_tryH (hx : X.ex = []) (hN : X.N.Nodup) (hi : X.N[i]? = some n) (hs : X.stack = X.env :: X.outer) (hf : X.env.frame = some X.env.locals) (hn : X.env.kindOf n = some .local) (hc : Names X x c)
    (hb : ∀ (W : WX) (pn : List (Addr × Obj)) (xe : Value → Shared → Prop), Takes (X.tr pn xe) W → PassesOwn (model X.prog X.w) X.A X.env xe → PSs (X.tr pn xe) body (tb W))
    (hsu : ∀ (a : Addr) (pn : List (Addr × Obj)), PSs (X.suite a pn) (b0 :: suite) ts) :
    PS X (.Try body [.ExceptHandler (some (.Name x np)) (some n) (b0 :: suite) pos'] [] [] pos) (fun D σ H => tb (wHot X.K c i ts D) D σ H) := by
  constructor
  intro pins s σ H D I h
  have ok := I.ok
  have fr : X.A.frames = some (X.env :: X.outer) := hs ▸ ok.frames
  let hs1 : List ExceptHandler := [.ExceptHandler (some (.Name x np)) (some n) (b0 :: suite) pos']
  let xe1 : Value → Shared → Prop := fun e s1 => wpAny (model X.prog X.w) X.A (noteFrame e X.env) (fun _ s2 => wpAny (model X.prog X.w) X.A (setFlight e none) (fun _ s3 => wpAny (model X.prog X.w) X.A (handleBy e X.env hs1) (SP X pins D) X.xe s3) X.xe s2) X.xe s1
  have caught : Takes (X.tr (X.pn ++ pins) xe1) (wHot X.K c i ts D) := by
    rintro _ s1 ⟨a, B, sI, pins', σ1, H1, cls, d, rfl, J0, nb, up, sky, na, os, ag, isC, next⟩
    have J := J0.ofTry ok (pins := pins)
    rw [show (X.tr (X.pn ++ pins) xe1).stack = X.env :: X.outer from hs] at sky
    refine Sky.land Zc.steady fr hf sky fun h2 f2 up2 => ?_
    have J2 := J.landed (s' := { s1 with heap := h2 }) nb f2.1 (up.trans up2) os ag
    obtain ⟨o2, v2, g2, z2, d2⟩ := f2.there
    have out : a ∉ frs (X.env :: X.outer) := fun hm => by
      obtain ⟨_, o3, g3, nf⟩ := f2.2.2.1.mem hm
      rw [g2] at g3
      cases g3
      exact nf _ d2
    have nL : a ≠ X.env.locals := fun z => out (List.mem_filterMap.mpr ⟨X.env, List.mem_cons_self, by rw [hf, z]⟩)
    have nF : a ∉ X.fs := fun hm => by
      obtain ⟨e, he, q⟩ := List.mem_filterMap.mp hm
      exact out (List.mem_filterMap.mpr ⟨e, List.mem_cons_of_mem _ he, q⟩)
    have gone : sI.heap.get? a = none := by
      cases q : sI.heap.get? a with
      | none => rfl
      | some o =>
        have := nb a o q (by rw [show (X.tr (X.pn ++ pins) xe1).stack = X.env :: X.outer from hs]; exact out)
        rw [f2.2.1] at this
        cases this
    have h0 : X.s_0.heap.get? a = none := by
      cases q : X.s_0.heap.get? a with
      | none => rfl
      | some o =>
        obtain ⟨o', q'⟩ := J.base.there a o q (by rw [hx]; exact fun z => nomatch z)
        rw [gone] at q'
        cases q'
    have hp : ∀ p ∈ X.pn ++ pins, p.1 ≠ a := fun p hm z => by
      have := (J.pin p hm).1
      rw [z, gone] at this
      cases this
    have S2 := J2.suite g2 d2 na nL nF
    refine wpAny_handleBy_cons (codeAny_handlers_test ?_) (fun q => by cases q)
    have L1 : PySem.W.Looks (model X.prog X.w) h2 (typeOf (.ref a)) cls := fun _ _ _ _ k q => wpAny_typeOf_ref (k _ _ g2) (z2.1 ▸ q)
    have L2 := PySem.W.exm_one (M := model X.prog X.w) J2.kIn L1 isC
    have test : ∀ {Q E : Value → Shared → Prop}, Q c { s1 with heap := h2 } → wpAny (model X.prog X.w) (X.A.mark (some (.ref a))) (eval (.Name x np) X.env) Q E { s1 with heap := h2 } := fun {Q E} q => by
      obtain ⟨k1, k2, k3 | ⟨k3, k4, k5⟩⟩ := hc
      · exact ld_glob (X := X.suite a ((a, o2) :: (X.pn ++ pins))) S2 k1 k3 q k2
      · exact ld_blt (X := X.suite a ((a, o2) :: (X.pn ++ pins))) S2 k1 k3 k4 q k5 k2
    refine test (L2.here ?_)
    refine codeAny_handlers_suite_as ?_
    refine HandSPX.lands_againZ f2 fun h3 f3 up3 => ?_
    have J3 := J.landed (s' := { s1 with heap := h3 }) nb f3.1 ((up.trans up2).trans up3) os ag
    obtain ⟨o3, v3, g3, z3, d3⟩ := f3.there
    have S3 := J3.suite g3 d3 na nL nF
    refine store_ok (X := X.suite a ((a, o3) :: (X.pn ++ pins))) (v := .ref a) S3 hN hi (.inl hn) rfl (fun s4 S4 => ?_) (.inr hn)
    refine wpAny_mono ((hsu a (X.pn ++ pins)).run [] s4 _ _ _ (taken_upH S4 ok h0 hp) (next a o3 na z3.1 z3.2 ⟨_, d3⟩)) (fun f s5 r => ?_) fun _ _ z => False.elim z
    cases f with
    | next =>
      obtain ⟨σ5, H5, S5, q5⟩ := r
      exact gone_ok (X := X.suite a (X.pn ++ pins)) (Q := fun _ s6 => SP X pins D .next s6) S5 hN hi hn fun s6 S6 => ⟨_, _, left_suite S6 ok, q5⟩
    | brk =>
      obtain ⟨σ5, H5, S5, q5⟩ := r
      exact gone_ok (X := X.suite a (X.pn ++ pins)) (Q := fun _ s6 => SP X pins D .brk s6) S5 hN hi hn fun s6 S6 => ⟨_, _, left_suite S6 ok, q5⟩
    | cont =>
      obtain ⟨σ5, H5, S5, q5⟩ := r
      exact gone_ok (X := X.suite a (X.pn ++ pins)) (Q := fun _ s6 => SP X pins D .cont s6) S5 hN hi hn fun s6 S6 => ⟨_, _, left_suite S6 ok, q5⟩
    | ret u =>
      obtain ⟨v, σ5, H5, S5, r5, q5⟩ := r
      exact gone_ok (X := X.suite a (X.pn ++ pins)) (Q := fun _ s6 => SP X pins D (.ret u) s6) S5 hN hi hn fun s6 S6 => ⟨v, _, _, left_suite S6 ok, r5, q5⟩
  refine wpAny_Try_except (wpAny_mono ((hb _ (X.pn ++ pins) xe1 caught PassesOwn.looking).run [] s σ H D (I.toTry _) h) (fun f s1 r => ?_) fun _ _ z => z)
  cases f with
  | next =>
    obtain ⟨σ1, H1, J, q⟩ := r
    exact wpAny_execs_nil ⟨σ1, H1, J.ofTry ok, q⟩
  | brk => obtain ⟨σ1, H1, J, q⟩ := r; exact ⟨σ1, H1, J.ofTry ok, q⟩
  | cont => obtain ⟨σ1, H1, J, q⟩ := r; exact ⟨σ1, H1, J.ofTry ok, q⟩
  | ret u => obtain ⟨v, σ1, H1, J, r1, q⟩ := r; exact ⟨v, σ1, H1, J.ofTry ok, r1, q⟩
end
/-- try: T / except of Cs as the name at i: U -/
def sTryH (Cs : List Addr) (i : Nat) (T U : TSd) : TSd := fun E Γ S => T { nx := E.nx, rt := E.rt, er := fun S1 x => x.cls ∈ Cs ∧ i < Γ.length ∧ U { nx := fun Γ' S' => E.nx (Γ'.set i none) S', rt := E.rt, er := fun _ _ => False } (Γ.set i (some (.exc x.cls x.fs))) S1 } Γ S
theorem js_tryH {X : Cx} {W : WX} {x n : Str} {c : Value} {Cs : List Addr} {body suite : List Stmt} {b0 : Stmt} {tb : WX → List (Addr × Obj) → (Value → Shared → Prop) → TS} {ts : TS} {Tb Ts : TSd} {np pos pos' : Pos} (i : Nat) (hx : X.ex = []) (hs : X.stack = X.env :: X.outer) (hf : X.env.frame = some X.env.locals) (hN : X.N.Nodup) (hc : Names X x c)
    (hm : ∀ C ∈ Cs, PySem.W.exmOne X.K (.ref C) c = some true) (hb : ∀ (W' : WX) (pn : List (Addr × Obj)) (xe : Value → Shared → Prop), Takes (X.tr pn xe) W' → JFB (X.tr pn xe) W' body (tb W' pn xe) Tb)
    (hsu : ∀ (a : Addr) (pn : List (Addr × Obj)), JB (X.suite a pn) wNo (b0 :: suite) ts Ts)
    (hi : X.N[i]? = some n := by rfl) (hn : X.env.kindOf n = some .local := by rfl)
    (ee : ∀ W' pn xe, tb W' pn xe = tb W' [] (fun _ _ => True) := by intros; rfl) :
    JS X W (.Try body [.ExceptHandler (some (.Name x np)) (some n) (b0 :: suite) pos'] [] [] pos) (fun D σ H => tb (wHot X.K c i ts D) [] (fun _ _ => True) D σ H) (sTryH Cs i Tb Ts) := by
  refine ⟨ps_tryH (tb := fun W' => tb W' [] (fun _ _ => True)) hx hN hi hs hf hn hc (fun W' pn xe tk _ => ee W' pn xe ▸ (hb W' pn xe tk).pss) (fun a pn => (hsu a pn).pss), ?_⟩
  intro E Γ S σ w D g sl h r
  refine (hb (wHot X.K c i ts D) [] (fun _ _ => True) fun _ _ _ => trivial).sem _ Γ S σ w D g sl h ⟨fun w1 S1 e1 g1 h1 => r.nx σ Γ w1 S1 e1 g1 (sl.ext e1) h1, r.rt, ?_⟩
  rintro cv dx ex w1 S1 e1 g1 rx ⟨hC, hil', hnx⟩
  obtain ⟨rfl, rd⟩ := rx
  refine ⟨hm _ hC, fun a oe na o1 o2 o3 => ?_⟩
  have hil : i < σ.length := by rw [← sl.1]; exact hil'
  have e2 : Ext w1 (w1.frz a (known oe)) := Ext.frz g1 _ na
  have rv : Rv X.K (w1.frz a (known oe)) (.ref a) (.exc ex.cls ex.fs) := by
    cases dx with
    | none =>
      have z : ex.fs = [] := rd
      rw [z]
      exact .exc0 upd_same o1 o3 o2
    | some d =>
      obtain ⟨vs, q1, q2⟩ := rd
      exact .excD upd_same o1 o3 o2 (e2.f _ _ q1) (RpF.mono e2.f e2.alx _ _ q2)
  exact (hsu a []).sem _ _ S1 _ (w1.frz a (known oe)) (hotD i D) (g1.frz _ na) (((sl.ext e1).ext e2).set rv i) hnx
    ⟨fun σ' Γ' w' S' e' g' sl' h' => r.nx _ _ w' S' ((e1.trans e2).trans e') g' (sl'.unset i) h', (r.rt.ext e1).ext e2, (fun _ _ _ _ _ _ _ (z : False) => z.elim), (fun _ _ _ _ _ _ _ (z : False) => z.elim), fun _ _ _ _ _ _ _ _ _ (z : False) => z.elim⟩
end DL
namespace DL
open PySem PySem.Spec PyProof.Rows L2
/-- the different ones among ns -/
def uniqI (ns : List Int) : List Int := PyProof.Rows.firstMet (fun i => ns.getD i 0) ns.length
section
variable {X : Cx} {W : WX} {e : Expr} {te : TE} {Te : TD}
def dLenSetG (T : TD) : TD := fun Γ S Φ Ψ => T Γ S (fun S1 d => ∃ ns : List Int, asQ S1 d = some (ns.map D.int) ∧ ns.length ≤ 4000 ∧ Φ S1 (.int (uniqI ns).length)) Ψ
variable {Γ : Gam} {S : Sto} {Φ : KD} {Ψ : KX}
theorem dLenSetG_e {T : TD} : dLenSetG T Γ S Φ Ψ = T Γ S (fun S1 d => ∃ ns : List Int, asQ S1 d = some (ns.map D.int) ∧ ns.length ≤ 4000 ∧ Φ S1 (.int (uniqI ns).length)) Ψ := rfl
end
end DL
namespace DL
open PySem PySem.Spec PyProof.Rows L2
def dIsB (x y : D) (S : Sto) (Φ : KD) : Prop := match x, y with
  | .bl a, .bl b => Φ S (.bl (decide (a = b)))
  | _, _ => False
theorem dIsB_b {a b : Bool} {S : Sto} {Φ : KD} : dIsB (.bl a) (.bl b) S Φ = Φ S (.bl (decide (a = b))) := rfl
def obsXG1 (n : Nat) (fa : List FaX) (fn : List He5.DefA) (g : Addr → Option Obj) : He.AlD := obsX fa fn (He.frG g (sysModules :: He5.asA g n))
def hookX1 (n : Nat) (fa : List FaX) (fn : List He5.DefA) : PySem.W.Hook where
  α := He.AlD
  obs := fun s => obsXG1 n fa fn s.heap.get?
  val := fun _ => He5.valA fn
  says := fun _ h => ∃ K : PySem.W.Frag, K.In h ∧ SaysX fa fn K
  of := fun _ _ e => ⟨_, He.frG_in, e⟩
  keeps := fun _ _ _ ⟨K, hK, c⟩ k => ⟨K, PySem.W.Frag.In.keeps hK k, c⟩
theorem obsXG1_eq {n : Nat} {fa : List FaX} {fn : List He5.DefA} {g : Addr → Option Obj} {s : Shared} (h : ∀ a, g a = s.heap.get? a) : obsXG1 n fa fn g = (hookX1 n fa fn).obs s := by
  have e : g = s.heap.get? := funext h
  rw [e] <;> rfl
/-- showable, of depth n at most, its text m long at most -/
structure FitX (n m : Nat) (p : PyData) : Prop where
  show_ : p.showable = true
  deep : p.depth ≤ n
  len : p.shown.length ≤ m
theorem FitX.mono {n m n' m' : Nat} {p : PyData} (h : FitX n m p) (a : n ≤ n') (b : m ≤ m') : FitX n' m' p := ⟨h.show_, Nat.le_trans h.deep a, Nat.le_trans h.len b⟩
theorem Fit.x {n m : Nat} {p : PyData} (h : Fit n m p) : FitX n m p := ⟨h.show_, h.deep, h.len⟩
theorem FitX.shw {n m : Nat} {p : PyData} (h : FitX n m p) (hn : n ≤ 60 := by decide) (hm : m ≤ sizeLine := by decide) : ShwX p := ⟨h.show_, Nat.le_trans h.deep hn, Nat.le_trans h.len hm⟩
theorem fitx_all {n m : Nat} : ∀ {ps : List PyData}, (∀ p ∈ ps, FitX n m p) → PyData.showableAll ps = true ∧ PyData.depthAll ps ≤ n
  | [], _ => ⟨by rw [PyData.showableAll], by rw [PyData.depthAll]; exact Nat.zero_le _⟩
  | p :: ps, h => by
    obtain ⟨a, b⟩ := fitx_all (ps := ps) fun q hq => h q (List.mem_cons_of_mem _ hq)
    have c := h p List.mem_cons_self
    refine ⟨by rw [PyData.showableAll, c.show_, a]; rfl, ?_⟩
    rw [PyData.depthAll]
    have := c.deep
    omega
theorem fitx_list {n m l : Nat} {ps : List PyData} (h : ∀ p ∈ ps, FitX n m p) (hl : ps.length ≤ l) : FitX (n + 1) (2 + l * (m + 2)) (.list ps) := by
  obtain ⟨b, d⟩ := fitx_all h
  refine ⟨by rw [PyData.showable]; exact b, by rw [PyData.depth]; omega, ?_⟩
  rw [PyData.shown]
  have := listText_le (m := m) (ts := PyData.shownAll ps) fun t ht => by
    obtain ⟨p, hp, rfl⟩ := shownAll_mem ht
    exact (h p hp).len
  rw [shownAll_len] at this
  have h2 : ps.length * (m + 2) ≤ l * (m + 2) := Nat.mul_le_mul_right _ hl
  omega
theorem fitx_int {i : Int} {k : Nat} (h : i.natAbs < 10 ^ k) (h0 : 0 < k := by decide) (hk : k ≤ 500 := by decide) : FitX 0 (k + 1) (.int i) := (fit_int h h0 hk).x
end DL
namespace DL
open PySem PySem.Spec PyProof.Rows L2
theorem sTryH_e {E : EdD} {Cs : List Addr} {i : Nat} {T U : TSd} {Γ : Gam} {S : Sto} : sTryH Cs i T U E Γ S = T { nx := E.nx, rt := E.rt, er := fun S1 x => x.cls ∈ Cs ∧ i < Γ.length ∧ U { nx := fun Γ' S' => E.nx (Γ'.set i none) S', rt := E.rt, er := fun _ _ => False } (Γ.set i (some (.exc x.cls x.fs))) S1 } Γ S := rfl
end DL
namespace DL
open PySem PySem.Spec PyProof.Rows L2
/-- a tuple behind a tuple, both of something -/
def dAddT (x y : D) (S : Sto) (Φ : KD) : Prop := ∃ ds es, x = .tup ds ∧ y = .tup es ∧ ds ≠ [] ∧ es ≠ [] ∧ ds.length + es.length ≤ sizeLine ∧ Φ S (.tup (ds ++ es))
theorem opd_addT {K : PySem.W.Frag} : OpD K (rCatT K) dAddT := fun w S x y u v Φ Q g r1 r2 ⟨ds, es, e1, e2, h1, h2, hl, h⟩ q => by
  subst e1
  subst e2
  cases r1 with
  | @tup a xs _ s1 ra =>
    cases r2 with
    | @tup b ys _ s2 rb =>
      refine ⟨a, b, xs, ys, rfl, rfl, sameSqt g.sub s1, sameSqt g.sub s2, fun z => h1 ?_, by rw [ra.length, rb.length]; exact hl, fun z => absurd ?_ h2, fun _ p hp => new_tup g q (ra.append rb) h p hp⟩
      · rw [← List.length_eq_zero_iff, ← ra.length, z]; rfl
      · rw [← List.length_eq_zero_iff, ← rb.length, z]; rfl
section
variable {S : Sto} {Φ : KD}
theorem dAddT_t {ds es : List D} : dAddT (.tup ds) (.tup es) S Φ = (ds ≠ [] ∧ es ≠ [] ∧ ds.length + es.length ≤ sizeLine ∧ Φ S (.tup (ds ++ es))) := propext ⟨fun ⟨_, _, e1, e2, h⟩ => by cases e1; cases e2; exact h, fun h => ⟨_, _, rfl, rfl, h⟩⟩
end
end DL
namespace DL
open PySem PySem.Spec PyProof.Rows L2
section
variable {X : Cx} {W : WX} {a b e : Expr} {ta : TA} {te : TE} {p p2 pos pos2 tpos : Pos} {elts : List Expr} {kk : Nat}
/-- zip(range(a, b), e) -/
def iZrD (T : TL) (U : TD) : TId := fun Γ S Φ Ψ => T Γ S (fun S1 ds => ∃ i j : Int, ds = [.int i, .int j] ∧ (-(2 ^ 62) ≤ i ∧ i < 2 ^ 62 ∧ -(2 ^ 62) ≤ j ∧ j < 2 ^ 62) ∧ U Γ S1 (fun S2 d => (∃ ys, asQ S2 d = some ys) ∧ Φ S2 (fun S' => (asQ S' d).map fun ys => zipD (rngD i (j - i).toNat) ys)) Ψ) Ψ
section
variable {Γ : Gam} {S : Sto} {Ψ : KX}
theorem iZrD_e {T : TL} {U : TD} {Φ : Sto → Src → Prop} : iZrD T U Γ S Φ Ψ = T Γ S (fun S1 ds => ∃ i j : Int, ds = [.int i, .int j] ∧ (-(2 ^ 62) ≤ i ∧ i < 2 ^ 62 ∧ -(2 ^ 62) ≤ j ∧ j < 2 ^ 62) ∧ U Γ S1 (fun S2 d => (∃ ys, asQ S2 d = some ys) ∧ Φ S2 (fun S' => (asQ S' d).map fun ys => zipD (rngD i (j - i).toNat) ys)) Ψ) Ψ := rfl
end
end
end DL
namespace DL
open PySem PySem.Spec PyProof.Rows L2
def kD : Key → D
  | .inl i => .int i
  | .inr x => .str x
theorem kD_of {K : PySem.W.Frag} {F : Hp} {al : List Addr} {k : Key} {v : V} (r : Rp K F al v (kD k)) : v = kV k := by
  cases k with
  | inl i => cases r; rfl
  | inr x => cases r; rfl
theorem kD_rp {K : PySem.W.Frag} {F : Hp} {al : List Addr} : ∀ k : Key, Rp K F al (kV k) (kD k)
  | .inl i => .int i
  | .inr x => .str x
theorem kD_inj : ∀ {k j : Key}, kD k = kD j → k = j
  | .inl _, .inl _, e => by cases e; rfl
  | .inr _, .inr _, e => by cases e; rfl
  | .inl _, .inr _, e => by cases e
  | .inr _, .inl _, e => by cases e
def atD (ks : List (Key × D)) (k : Key) : Option D := (ks.find? fun p => decide (p.1 = k)).map (·.2)
def pKD (ks : List (Key × D)) (k : Key) (d : D) : List (Key × D) :=
  if (ks.any fun p => decide (p.1 = k)) = true then ks.map (fun p => if p.1 = k then (p.1, d) else p) else ks ++ [(k, d)]
theorem pKD_len (ks : List (Key × D)) (k : Key) (d : D) : (pKD ks k d).length ≤ ks.length + 1 := by
  unfold pKD
  split <;> simp
section
variable {K : PySem.W.Frag} {F : Hp} {al : List Addr}
theorem RpK.len : ∀ {us : List (Key × V)} {ks : List (Key × D)}, RpK K F al us ks → us.length = ks.length
  | _, _, .nil => rfl
  | _, _, .cons _ t => by rw [List.length_cons, List.length_cons, RpK.len t]
theorem RpK.anyE (k : Key) : ∀ {us : List (Key × V)} {ks : List (Key × D)}, RpK K F al us ks → (us.any fun p => decide (p.1 = k)) = (ks.any fun p => decide (p.1 = k))
  | _, _, .nil => rfl
  | _, _, .cons _ t => by rw [List.any_cons, List.any_cons, RpK.anyE k t]
theorem RpK.mapE (k : Key) {v : V} {d : D} (r : Rp K F al v d) : ∀ {us : List (Key × V)} {ks : List (Key × D)}, RpK K F al us ks → RpK K F al (us.map fun p => if p.1 = k then (p.1, v) else p) (ks.map fun p => if p.1 = k then (p.1, d) else p)
  | _, _, .nil => .nil
  | _, _, @RpK.cons _ _ _ n u us' e ds' h t => by
    rw [List.map_cons, List.map_cons (l := ds')]
    by_cases z : n = k
    · rw [if_pos z, if_pos z]; exact .cons r (RpK.mapE k r t)
    · rw [if_neg z, if_neg z]; exact .cons h (RpK.mapE k r t)
theorem RpK.end1 {k : Key} {v : V} {d : D} (r : Rp K F al v d) : ∀ {us : List (Key × V)} {ks : List (Key × D)}, RpK K F al us ks → RpK K F al (us ++ [(k, v)]) (ks ++ [(k, d)])
  | _, _, .nil => .cons r .nil
  | _, _, .cons h t => .cons h (RpK.end1 r t)
theorem RpK.putE {us : List (Key × V)} {ks : List (Key × D)} (h : RpK K F al us ks) (k : Key) {v : V} {d : D} (r : Rp K F al v d) : RpK K F al (putK us k v) (pKD ks k d) := by
  have ea := h.anyE k
  unfold putK pKD
  rw [ea]
  by_cases c : (ks.any fun p => decide (p.1 = k)) = true
  · rw [if_pos c, if_pos c]; exact h.mapE k r
  · rw [if_neg c, if_neg c]; exact h.end1 r
theorem RpK.getE : ∀ {us : List (Key × V)} {ks : List (Key × D)} {i : Nat} {k : Key} {d : D}, RpK K F al us ks → ks[i]? = some (k, d) → ∃ v, us[i]? = some (k, v) ∧ Rp K F al v d
  | _, _, i, _, _, .nil, e => by simp at e
  | _, _, 0, _, _, .cons r _, e => by simp at e; obtain ⟨rfl, rfl⟩ := e; exact ⟨_, rfl, r⟩
  | _, _, i + 1, k, d, .cons _ t, e => by
    obtain ⟨v, h1, h2⟩ := RpK.getE (i := i) (k := k) (d := d) t (by simpa using e)
    exact ⟨v, by simpa using h1, h2⟩
theorem RpK.snds : ∀ {us : List (Key × V)} {ks : List (Key × D)}, RpK K F al us ks → RpA K F al (us.map (·.2)) (ks.map (·.2))
  | _, _, .nil => .nil
  | _, _, .cons r t => .cons r (RpK.snds t)
end
theorem dck_at {K : PySem.W.Frag} {w : Hs} {S : Sto} (g : Good K w S) {h : Nat} {v : V} {ks : List (Key × D)} (r : Rv K w v (.own h)) (e : S[h]? = some (.dck ks)) : ∃ a us, v = .ref a ∧ w.al[h]? = some a ∧ w.F a = none ∧ w.H a = some (.dK us) ∧ RpK K w.F w.al us ks := by
  cases r with
  | @own h a q =>
    obtain ⟨hF, us, h2, h3⟩ := g.cell h a _ q e
    exact ⟨a, us, rfl, q, hF, h2, h3⟩
def dNewK : TD := fun Γ S Φ Ψ => Φ (S ++ [.dck []]) (.own S.length)
/-- {k: v} -/
def dDis1 (Tk Tv : TD) : TD := fun Γ S Φ Ψ => Tk Γ S (fun S1 y => Tv Γ S1 (fun S2 z => ∃ k, y = kD k ∧ Φ (S2 ++ [.dck [(k, z)]]) (.own S2.length)) Ψ) Ψ
theorem Ext.madeC {w0 w : Hs} (e : Ext w0 w) {p : Addr} (o : HO) (h0 : w0.H p = none) : Ext w0 ⟨w.F, w.al ++ [p], upd w.H p o⟩ := by
  refine ⟨e.f, ?_, e.new, fun a x q n => ?_, fun a q => ?_⟩
  · obtain ⟨β, eb, hb⟩ := e.al
    refine ⟨β ++ [p], by show w.al ++ [p] = _; rw [eb, List.append_assoc], fun b hm => ?_⟩
    rcases List.mem_append.mp hm with y | y
    · exact hb b y
    · rw [List.mem_singleton.mp y]; exact h0
  · show upd w.H p o a = some x
    rw [upd_ne (ne_of_none q h0)]; exact e.kp a x q n
  · show upd w.H p o a ≠ none
    by_cases z : a = p
    · rw [z, upd_same]; exact fun z => nomatch z
    · rw [upd_ne z]; exact e.dm a q
/-- the hidden thing at p becomes a cell -/
theorem Good.madeC {K : PySem.W.Frag} {w : Hs} {S : Sto} (g : Good K w S) {p : Addr} {o : HO} {c0 : Cell} (hF : w.F p = none) (hA : p ∉ w.al) (ok : CellOk K ⟨w.F, w.al ++ [p], upd w.H p o⟩ p c0) : Good K ⟨w.F, w.al ++ [p], upd w.H p o⟩ (S ++ [c0]) := by
  have am : ∀ (n : Nat) (a : Addr), w.al[n]? = some a → (w.al ++ [p])[n]? = some a := fun n a z => by
    rw [List.getElem?_append_left (List.getElem?_eq_some_iff.mp z).1]; exact z
  refine ⟨fun a x q => ?_, ?_, ?_, fun n a c q1 q2 => ?_, fun a z => ?_⟩
  · show upd w.H p o a = some x
    rw [upd_ne (ne_of_none q hF)]; exact g.sub a x q
  · show (w.al ++ [p]).Nodup
    rw [List.nodup_append]
    exact ⟨g.nd, by simp, fun a ha b hb => fun z => hA (List.mem_singleton.mp hb ▸ z ▸ ha)⟩
  · show (w.al ++ [p]).length = (S ++ [c0]).length
    simp [g.len]
  · have q1 : (w.al ++ [p])[n]? = some a := q1
    by_cases hn : n < w.al.length
    · rw [List.getElem?_append_left hn] at q1
      rw [List.getElem?_append_left (by rw [← g.len]; exact hn)] at q2
      have hne : a ≠ p := fun z => hA (z ▸ List.mem_of_getElem? q1)
      have ok2 := g.cell n a c q1 q2
      cases c with
      | gone => exact True.intro
      | lst ds =>
        obtain ⟨h1, ys, h2, h3⟩ := ok2
        exact ⟨h1, ys, by show upd w.H p o a = _; rw [upd_ne hne]; exact h2, RpA.mono (fun _ _ z => z) am ds ys h3⟩
      | ins C fs =>
        obtain ⟨h1, dx, ys, h2, h3⟩ := ok2
        exact ⟨h1, dx, ys, by show upd w.H p o a = _; rw [upd_ne hne]; exact h2, RpF.mono (fun _ _ z => z) am fs ys h3⟩
      | dct ks =>
        obtain ⟨h1, us, h2, h3⟩ := ok2
        exact ⟨h1, us, by show upd w.H p o a = _; rw [upd_ne hne]; exact h2, h3.mono (fun _ _ z => z) am⟩
      | dck ks =>
        obtain ⟨h1, us, h2, h3⟩ := ok2
        exact ⟨h1, us, by show upd w.H p o a = _; rw [upd_ne hne]; exact h2, RpK.mono (fun _ _ z => z) am ks us h3⟩
      | lck o' us ks =>
        obtain ⟨h1, h2, h3⟩ := ok2
        exact ⟨h1, by show upd w.H p o a = _; rw [upd_ne hne]; exact h2, RpK.mono (fun _ _ z => z) am ks us h3⟩
    · have hn2 : n = w.al.length := by
        have := (List.getElem?_eq_some_iff.mp q1).1
        simp at this
        omega
      subst hn2
      rw [List.getElem?_append_right (Nat.le_refl _), Nat.sub_self] at q1
      rw [g.len, List.getElem?_append_right (Nat.le_refl _), Nat.sub_self] at q2
      have e1 : p = a := Option.some.inj q1
      have e2 : c0 = c := Option.some.inj q2
      subst e1; subst e2
      exact ok
  · show upd w.H p o a ≠ none
    by_cases y : a = p
    · rw [y]; exact upd_some
    · rw [upd_ne y]
      refine g.dom a ?_
      rcases List.mem_append.mp (show a ∈ w.al ++ [p] from z) with m | m
      · exact m
      · exact absurd (List.mem_singleton.mp m) y
theorem own_last {K : PySem.W.Frag} {w : Hs} {S : Sto} (g : Good K w S) {F H : Hp} {p : Addr} : Rv K ⟨F, w.al ++ [p], H⟩ (.ref p) (.own S.length) := .own (by
  show (w.al ++ [p])[S.length]? = some p
  rw [← g.len]; simp)
section
variable {X : Cx} {W : WX} {e k v o i f value : Expr} {pos pos' apos cpos mpos p : Pos} {te tk tv to ti tx : TE} {Te Tk Tv To Ti Tx : TD}
theorem je_dis1 (hk : JE X W k tk Tk) (hv : JE X W v tv Tv) : JE X W (.Dict [some k] [v] pos) (tDisp [(tk, tv)]) (dDis1 Tk Tv) :=
  ⟨pe_disp (pps_cons hk.pe hv.pe pps_nil) rfl rfl (fun z => nomatch z) (show 1 ≤ 15 by decide), fun Γ S Φ Ψ σ w g sl hT hx Q q => fun a ha => by
    have hF := g.notF ha
    have hA := g.notA ha
    have e0 := (Ext.refl w).at (.dK []) ha
    refine hk.sem Γ S _ Ψ σ (w.at a (.dK [])) (g.at _ hF hA) (sl.ext e0) hT (hx.ext e0) _ fun y dy w1 S1 e1 g1 r1 h1 => ?_
    refine hv.sem Γ S1 _ Ψ σ w1 g1 (sl.ext (e0.trans e1)) h1 (hx.ext (e0.trans e1)) _ fun z dz w2 S2 e2 g2 r2 ⟨kk, ek, h2⟩ => ?_
    subst ek
    cases kD_of r1
    obtain ⟨hH2, hF2, hA2⟩ := (e1.trans e2).hid (o := .dK []) upd_same hF hA
    refine ⟨hH2, [(kk, z)], rfl, show 1 ≤ 15 by decide, ?_⟩
    have e3 := (e0.trans (e1.trans e2)).madeC (.dK [(kk, z)]) ha
    have am : ∀ (n : Nat) (b : Addr), w2.al[n]? = some b → (w2.al ++ [a])[n]? = some b := fun n b z => by
      rw [List.getElem?_append_left (List.getElem?_eq_some_iff.mp z).1]; exact z
    exact q (.ref a) (.own S2.length) _ _ e3 (g2.madeC (c0 := .dck [(kk, dz)]) hF2 hA2 ⟨hF2, [(kk, z)], upd_same, .cons (Rp.mono (fun _ _ z => z) am _ _ r2) .nil⟩) (own_last g2) h2⟩
/-- d[k] = v -/
def sDkp (Tv To Ti : TD) : TSd := fun E Γ S => Tv Γ S (fun S1 v => To Γ S1 (fun S2 o => Ti Γ S2 (fun S3 y => ∃ h ks k, o = .own h ∧ y = kD k ∧ S3[h]? = some (.dck ks) ∧ ks.length < 1000000 ∧ E.nx Γ (S3.set h (.dck (pKD ks k v)))) E.er) E.er) E.er
theorem js_dkp (hu : X.A.units + 64 < cLine) (ho : JE X W o to To) (hi : JE X W i ti Ti) (hv : JE X W value tv Tv) (hs : swapsWith value (some (.Subscript o i pos')) pos.line X.env = pure false := by rfl) :
    JS X W (.Assign [.Subscript o i pos'] value pos) (sDPut to ti tv) (sDkp Tv To Ti) :=
  ⟨ps_dput (by omega) ho.pe hi.pe hv.pe hs, fun D' Γ S σ w D g sl hT r =>
    hv.sem Γ S _ _ σ w g sl hT (r.er σ) _ fun v d w1 S1 e1 g1 r1 h1 => ho.sem Γ S1 _ _ σ w1 g1 (sl.ext e1) h1 ((r.er σ).ext e1) _ fun x od w2 S2 e2 g2 r2 h2 =>
      hi.sem Γ S2 _ _ σ w2 g2 (sl.ext (e1.trans e2)) h2 ((r.er σ).ext (e1.trans e2)) _ fun y dy w3 S3 e3 g3 r3 ⟨h, ks, k, eo, ey, es, hk, hn⟩ => by
        subst eo ey
        cases kD_of r3
        obtain ⟨a, us, rfl, hal, hF, hH, rt⟩ := dck_at g3 (e3.rp r2) es
        have g5 := g3.write (o := .dK (putK us k v)) (c0 := .dck (pKD ks k d)) hal (List.getElem?_eq_some_iff.mp es).1 hF ⟨hF, _, upd_same, rt.putE k ((e2.trans e3).rp r1)⟩
        have e5 : Ext w3 (w3.wr a (.dK (putK us k v))) := Ext.wr _ (List.mem_of_getElem? hal)
        have ex := (e1.trans e2).trans (e3.trans e5)
        exact ⟨a, _, rfl, DPut.k hH (by rw [rt.len]; exact Nat.lt_of_lt_of_le hk (by decide)), r.nx _ _ _ _ ex g5 (sl.ext ex) hn⟩⟩
/-- d[k] -/
def dDGet (To Ti : TD) : TD := fun Γ S Φ Ψ => To Γ S (fun S1 o => Ti Γ S1 (fun S2 y => ∃ h ks k d, o = .own h ∧ y = kD k ∧ S2[h]? = some (.dck ks) ∧ atD ks k = some d ∧ Φ S2 d) Ψ) Ψ
/-- d.get(k, x) -/
def dDGet2 (To Ti Tx : TD) : TD := fun Γ S Φ Ψ => To Γ S (fun S1 o => ∃ h ks, o = .own h ∧ S1[h]? = some (.dck ks) ∧ Ti Γ S1 (fun S2 y => Tx Γ S2 (fun S3 z => ∃ ks k, y = kD k ∧ S3[h]? = some (.dck ks) ∧ Φ S3 ((atD ks k).getD z)) Ψ) Ψ) Ψ
/-- list(d.values()) -/
def tLVals (td : TE) : TE := fun σ H Q => td σ H fun x H1 => ∃ d us, x = V.ref d ∧ H1 d = some (.dK us) ∧ ∀ p, H1 p = none → Q (.ref p) (upd H1 p (.lst (us.map (·.2))))
theorem vals_fit {us : List (Key × V)} {vs : List (Key × Value)} (r : KV us vs) {acc : Array Value} (h : ItemsOf (fun i v => ∃ k, vs[i]? = some (k, v)) acc vs.length) : Vals (us.map (·.2)) acc.toList := by
  have e : acc.toList = vs.map (·.2) := List.ext_getElem? fun i => by
    rw [Array.getElem?_toList, List.getElem?_map]
    cases q : acc[i]? with
    | none =>
      have := Array.getElem?_eq_none_iff.mp q
      rw [List.getElem?_eq_none (by rw [← h.1]; exact this)]
      rfl
    | some u =>
      obtain ⟨k, ek⟩ := h.2 i u q
      rw [ek] <;> rfl
  rw [e]
  unfold KV at r
  clear e h
  induction r with
  | nil => exact .nil
  | cons h t ih => exact .cons h.2 ih
theorem pe_lvals (hc : X.calm = true) (ho : PE X o to) (hg : Gl X "list") (hm : X.mg "list" = none) (hv : bootBuiltins "list" = some (.type "list")) (hbase : attributeBase o "values" X.env (eval o X.env) = eval o X.env := by rfl) (hline : (apos.endLine == cpos.line) = true := by rfl)
    (hs : starEach [Expr.Call (.Attribute o "values" apos) [] [] cpos] X.env = (false, eval (Expr.Call (.Attribute o "values" apos) [] [] cpos) X.env) :: starEach [] X.env := by rfl) :
    PE X (.Call (.Name "list" p) [.Call (.Attribute o "values" apos) [] [] cpos] [] pos) (tLVals to) := ⟨fun pins s σ H Q J h => by
  refine wpAny_Call_Name_kw (ld_blt J hg hm hv (PyProof.Rows.callWith_type1 ?_ hs rfl))
  rw [hs]
  refine (show wpAny (model X.prog X.w) X.A (spliced ((false, eval (Expr.Call (.Attribute o "values" apos) [] [] cpos) X.env) :: backTo pos (starEach [] X.env))) _ X.xe s from ?_)
  refine Calls.spliced_cons (wpAny_Call_method (T := "dict") (id := "dict.values") hbase rfl hline F.plainAttrs_dict F.slot_dict_values F.type_dict_values (thn (ho.run pins s σ H _ J h) fun u s1 ⟨x, H1, J1, rx, d, us, ex, hd, q⟩ => ?_))
  cases ex
  cases rx
  obtain ⟨hz, hs0, vs, kv, hdo⟩ := J1.hok d _ hd
  obtain ⟨epo, hat⟩ := hdo.dictAt
  have lk : us.length = vs.length := Paired.length kv
  refine ⟨hdo.typeIs, hdo.mapOf.noDict, (show wpAny (model X.prog X.w) X.A (callWith cpos (.builtin "dict.values") [.ref d] [] []) _ X.xe s1 from ?_)⟩
  refine method_meetsIn F.slot_dict_values F.entry_dict_values rfl (PySem.evalArgs_none ⟨rfl, hdo.typeIs, F.args_dict_values_1 _, _, meets_dict_values (mixKind X.prog X.w) d hs0, ⟨vs, hdo⟩, Calls.spliced_nil ?_⟩)
  refine PySem.W.kdl_call (PySem.W.kdl_values (knd := mixKind X.prog X.w) (r := s1.heap.objs.size) (d := d) (kvs := vs) (ep := epo)) (J1.ok.hd hc) ⟨⟨_, Heap.get?_push_size _ rfl, rfl, rfl⟩, hat.push _⟩ (lk ▸ hz) fun h' tk acc c hk hS hacc => ?_
  have J2 : Inv X pins σ H1 { s1 with heap := s1.heap.push { cls := .type "dict_values", data := .fields #[.ref d] } } := J1.kept (t' := s1.toks) fun b ob q => Heap.get?_push_of_some _ q
  have hn : H1 (s1.heap.push { cls := .type "dict_values", data := .fields #[.ref d] }).objs.size = none := J2.hok.fresh (Nat.le_refl _)
  refine ⟨.ref _, upd H1 _ (.lst (us.map (·.2))), J2.laid (t' := tk) hk (Nat.le_refl _) ⟨by rw [List.length_map]; exact hz, acc.toList, c, vals_fit kv hacc, ?_⟩, rfl, q _ hn⟩
  rw [Array.toArray_toList]
  exact hS⟩
def dLVals (To : TD) : TD := fun Γ S Φ Ψ => To Γ S (fun S1 o => ∃ h ks, o = .own h ∧ S1[h]? = some (.dck ks) ∧ Φ S1 (.lst (ks.map (·.2)))) Ψ
theorem je_lvals (hc : X.calm = true) (ho : JE X W o to To) (hg : Gl X "list") (hm : X.mg "list" = none) (hbase : attributeBase o "values" X.env (eval o X.env) = eval o X.env := by rfl) (hline : (apos.endLine == cpos.line) = true := by rfl)
    (hs : starEach [Expr.Call (.Attribute o "values" apos) [] [] cpos] X.env = (false, eval (Expr.Call (.Attribute o "values" apos) [] [] cpos) X.env) :: starEach [] X.env := by rfl) (hv : bootBuiltins "list" = some (.type "list") := by first | rfl | decide +kernel) :
    JE X W (.Call (.Name "list" p) [.Call (.Attribute o "values" apos) [] [] cpos] [] pos) (tLVals to) (dLVals To) :=
  ⟨pe_lvals hc ho.pe hg hm hv hbase hline hs, fun Γ S Φ Ψ σ w g sl hT hx Q q => ho.sem Γ S _ _ σ w g sl hT hx _ fun x od w1 S1 e1 g1 r1 ⟨h, ks, eo, es, h1⟩ => by
    subst eo
    obtain ⟨a, us, rfl, hal, hF, hH, rt⟩ := dck_at g1 r1 es
    refine ⟨a, us, rfl, hH, fun p hp => ?_⟩
    have e2 := Ext.frz g1 (.lst (us.map (·.2))) hp
    exact q _ _ _ S1 (e1.trans e2) (g1.frz _ hp) (.lst upd_same (e2.ra rt.snds)) h1⟩
end
section
variable {Γ : Gam} {S : Sto} {Φ : KD} {Ψ : KX} {To Ti Tx Tk Tv : TD}
theorem dNewK_e : dNewK Γ S Φ Ψ = Φ (S ++ [Cell.dck []]) (.own S.length) := rfl
theorem dDis1_e : dDis1 Tk Tv Γ S Φ Ψ = Tk Γ S (fun S1 y => Tv Γ S1 (fun S2 z => ∃ k, y = kD k ∧ Φ (S2 ++ [.dck [(k, z)]]) (.own S2.length)) Ψ) Ψ := rfl
theorem sDkp_e {E : EdD} : sDkp Tv To Ti E Γ S = Tv Γ S (fun S1 v => To Γ S1 (fun S2 o => Ti Γ S2 (fun S3 y => ∃ h ks k, o = .own h ∧ y = kD k ∧ S3[h]? = some (.dck ks) ∧ ks.length < 1000000 ∧ E.nx Γ (S3.set h (.dck (pKD ks k v)))) E.er) E.er) E.er := rfl
theorem dDGet_e : dDGet To Ti Γ S Φ Ψ = To Γ S (fun S1 o => Ti Γ S1 (fun S2 y => ∃ h ks k d, o = .own h ∧ y = kD k ∧ S2[h]? = some (.dck ks) ∧ atD ks k = some d ∧ Φ S2 d) Ψ) Ψ := rfl
theorem dDGet2_e : dDGet2 To Ti Tx Γ S Φ Ψ = To Γ S (fun S1 o => ∃ h ks, o = .own h ∧ S1[h]? = some (.dck ks) ∧ Ti Γ S1 (fun S2 y => Tx Γ S2 (fun S3 z => ∃ ks k, y = kD k ∧ S3[h]? = some (.dck ks) ∧ Φ S3 ((atD ks k).getD z)) Ψ) Ψ) Ψ := rfl
theorem dLVals_e : dLVals To Γ S Φ Ψ = To Γ S (fun S1 o => ∃ h ks, o = .own h ∧ S1[h]? = some (.dck ks) ∧ Φ S1 (.lst (ks.map (·.2)))) Ψ := rfl
/-- a key that is an int -/
theorem kD_ex_i {i : Int} {P : Key → Prop} : (∃ k, D.int i = kD k ∧ P k) = P (.inl i) := by
  refine propext ⟨fun h => ?_, fun h => ⟨.inl i, rfl, h⟩⟩
  obtain ⟨k, e, h⟩ := h
  have e2 : k = .inl i := kD_inj (k := k) (j := .inl i) e.symm
  rw [← e2]
  exact h
end
end DL
namespace DL
open PySem PySem.Spec PyProof.Rows L2
open Classical in
noncomputable def srcL (h : Nat) (o : Obj) (us : List (Key × V)) : Src := fun S => match S[h]? with
  | some (.lck o' us' ks) => if o' = o ∧ us' = us then some (ks.map fun p => D.tup [kD p.1, p.2]) else none
  | _ => none
theorem srcL_eq {S : Sto} {h : Nat} {o : Obj} {us : List (Key × V)} {ks : List (Key × D)} (e : S[h]? = some (.lck o us ks)) : srcL h o us S = some (ks.map fun p => D.tup [kD p.1, p.2]) := by
  unfold srcL
  rw [e]
  simp
theorem srcL_of {S : Sto} {h : Nat} {o : Obj} {us : List (Key × V)} {ds : List D} (e : srcL h o us S = some ds) : ∃ ks, S[h]? = some (.lck o us ks) ∧ ds = ks.map fun p => D.tup [kD p.1, p.2] := by
  unfold srcL at e
  split at e
  · rename_i o' us' ks q
    split at e
    · rename_i c
      obtain ⟨rfl, rfl⟩ := c
      exact ⟨ks, q, (Option.some.inj e).symm⟩
    · cases e
  · cases e
theorem src_items {K : PySem.W.Frag} {w0 : Hs} {h : Nat} {a : Addr} {o : Obj} {us : List (Key × V)} (ha : w0.al[h]? = some a) : SrcOk K w0 (Iti a o us) (srcL h o us) := fun w S ds i e' g hs => by
  obtain ⟨ks, e, rfl⟩ := srcL_of hs
  have ha' := e'.alx h a ha
  obtain ⟨hF, hH, rt⟩ := g.cell h a _ ha' e
  refine ⟨fun d hd => ⟨⟨hH, ?_⟩, fun x H' hy => ?_⟩, fun hl => ⟨hH, by rw [rt.len]; simpa using hl⟩⟩
  · rw [rt.len]
    have := (List.getElem?_eq_some_iff.mp hd).1
    simpa using this
  · obtain ⟨T, k, v, hk, rfl, hT, rfl⟩ := hy
    rw [List.getElem?_map] at hd
    obtain ⟨p, hp, rfl⟩ := Option.map_eq_some_iff.mp hd
    obtain ⟨v', hv', rv⟩ := rt.getE (k := p.1) (d := p.2) hp
    rw [hk] at hv'
    cases hv'
    exact ⟨w.frz T (.tup [kV p.1, v]), Ext.frz g _ hT, g.frz _ hT, rfl, .tup (.inl (.inl upd_same)) ((Ext.frz g _ hT).ra (.cons (kD_rp _) (.cons rv .nil)))⟩
/-- the items of the locked dict of a name -/
def iItD (i : Nat) : TId := fun Γ S Φ Ψ => ∃ h o us ks, Γ[i]? = some (some (.own h)) ∧ S[h]? = some (.lck o us ks) ∧ Φ S (srcL h o us)
theorem sem_items {K : PySem.W.Frag} {W : WX} {i : Nat} : SemI K W (iItems (tVar i)) (iItD i) := fun Γ S Φ Ψ σ w g sl ⟨h, o, us, ks, e1, e2, hp⟩ hx Q q => by
  obtain ⟨v, hv, r⟩ := sl.2 i _ e1
  cases r with
  | @own _ a ha =>
    obtain ⟨hF, hH, rt⟩ := g.cell h a _ ha e2
    exact ⟨_, hv, a, o, us, rfl, hH, q _ _ w S (Ext.refl w) g (src_items ha) hp⟩
/-- a statement, an expression while the dict of a name is locked -/
def sLck (i : Nat) (T : TSd) : TSd := fun E Γ S => ∃ h ks, Γ[i]? = some (some (.own h)) ∧ S[h]? = some (.dck ks) ∧ ∀ o us, us.length = ks.length →
  T { nx := fun Γ' S' => S'[h]? = some (.lck o us ks) ∧ E.nx Γ' (S'.set h (.dck ks)), rt := fun S' d => S'[h]? = some (.lck o us ks) ∧ E.rt (S'.set h (.dck ks)) d, er := fun _ _ => False } Γ (S.set h (.lck o us ks))
theorem lck_in {K : PySem.W.Frag} {w : Hs} {S : Sto} (g : Good K w S) {h : Nat} {a : Addr} {us : List (Key × V)} {ks : List (Key × D)} (hal : w.al[h]? = some a) (e : S[h]? = some (.dck ks)) (hF : w.F a = none) (rt : RpK K w.F w.al us ks) (od : Obj) :
    Good K (w.wr a (.frz od (.dK us))) (S.set h (.lck od us ks)) ∧ Ext w (w.wr a (.frz od (.dK us))) :=
  ⟨g.write (c0 := .lck od us ks) hal (List.getElem?_eq_some_iff.mp e).1 hF ⟨hF, upd_same, rt⟩, Ext.wr _ (List.mem_of_getElem? hal)⟩
theorem lck_out {K : PySem.W.Frag} {w : Hs} {S : Sto} (g : Good K w S) {h : Nat} {a : Addr} {od : Obj} {us : List (Key × V)} {ks : List (Key × D)} (hal : w.al[h]? = some a) (e : S[h]? = some (.lck od us ks)) :
    w.H a = some (.frz od (.dK us)) ∧ Good K (w.wr a (.dK us)) (S.set h (.dck ks)) ∧ Ext w (w.wr a (.dK us)) := by
  obtain ⟨hF, hH, rt⟩ := g.cell h a _ hal e
  exact ⟨hH, g.write (c0 := .dck ks) hal (List.getElem?_eq_some_iff.mp e).1 hF ⟨hF, us, upd_same, rt⟩, Ext.wr _ (List.mem_of_getElem? hal)⟩
theorem sem_lckS {K : PySem.W.Frag} {W : WX} {i : Nat} {t : TS} {T : TSd} (hb : SemS K W t T) : SemS K W (tLock t) (sLck i T) := fun D' Γ S σ w D g sl ⟨h, ks, e1, e2, hT⟩ r => by
  obtain ⟨v, hv, rr⟩ := sl.2 i _ e1
  obtain ⟨a, us, rfl, hal, hF, hH, rt⟩ := dck_at g rr e2
  refine ⟨a, .dK us, hH, trivial, fun od => ?_⟩
  obtain ⟨g1, x1⟩ := lck_in g hal e2 hF rt od
  refine hb _ Γ _ σ _ _ g1 (sl.ext x1) (hT od us rt.len) ⟨fun σ' Γ' w' S' ee gg ss q => ?_, fun v' d' w' S' ee gg rr' q => ?_, fun _ _ _ _ _ _ _ z => z.elim, fun _ _ _ _ _ _ _ z => z.elim, fun _ _ _ _ _ _ _ _ _ z => z.elim⟩
  · obtain ⟨z1, z2, z3⟩ := lck_out gg (ee.alx h a hal) q.1
    exact ⟨z1, r.nx σ' Γ' _ _ ((x1.trans ee).trans z3) z2 (ss.ext z3) q.2⟩
  · obtain ⟨z1, z2, z3⟩ := lck_out gg (ee.alx h a hal) q.1
    exact ⟨z1, r.rt v' d' _ _ ((x1.trans ee).trans z3) z2 (z3.rp rr') q.2⟩
/-- {k: v for tg in iter if ..} -/
def dDc (I : TId) (G : TGd) (C : TB) (Tk Tv : TD) (vs : List Nat) : TD := fun Γ S Φ Ψ => I Γ S (fun S1 src => ∃ (P : Nat → List (Key × D) → Sto → Prop) (n : Nat), n ≤ 1000000 ∧ P 0 [] S1 ∧
  (∀ i acc S', i ≤ n → P i acc S' → ∃ ds, src S' = some ds ∧ ds.length = n) ∧
  (∀ i acc S' ds d, P i acc S' → src S' = some ds → ds[i]? = some d → G d (gwipe Γ vs) S' fun Γ2 S2 => C Γ2 S2 (fun S3 b => if b = true then Tk Γ2 S3 (fun S4 y => Tv Γ2 S4 (fun S5 z => ∃ k, y = kD k ∧ P (i + 1) (pKD acc k z) S5) (fun _ _ => False)) (fun _ _ => False) else P (i + 1) acc S3) (fun _ _ => False)) ∧
  (∀ acc S', P n acc S' → Φ (S' ++ [.dck acc]) (.own S'.length))) Ψ
theorem upd_id {H : Hp} {p : Addr} {o : HO} (h : H p = some o) : upd H p o = H := by
  funext a
  by_cases z : a = p
  · rw [z, upd_same, h]
  · rw [upd_ne z]
theorem sem_dc {K : PySem.W.Frag} {W : WX} {wi : TI} {g : TG} {tt : TT} {tk tv : TE} {I : TId} {G : TGd} {C : TB} {Tk Tv : TD} {vs : List Nat} (hi : SemI K W wi I) (hg : SemG K g G) (hk : GK vs g) (ht : SemT K (fun _ _ _ _ => False) tt C) (hky : SemE K (fun _ _ _ _ => False) tk Tk) (hvl : SemE K (fun _ _ _ _ => False) tv Tv) :
    SemE K W (tDc wi g tt tk tv vs) (dDc I G C Tk Tv vs) := fun Γ S Φ Ψ σ w g0 sl h hx Q q =>
  hi Γ S _ _ σ w g0 sl h hx _ fun J src w1 S1 e1 g1 ok ⟨P, n, hn, h0, hl, hs, hd⟩ => fun p hp => by
    have hF1 := g1.notF hp
    have hA1 := g1.notA hp
    obtain ⟨Nw, hNw⟩ : ∃ Nw : Nat → Hp → Prop, Nw = fun i H' => ∃ w' S' acc accV, H' = w'.H ∧ Ext w1 w' ∧ Good K w' S' ∧ w'.F p = none ∧ p ∉ w'.al ∧ w'.H p = some (.dK accV) ∧ RpK K w'.F w'.al accV acc ∧ P i acc S' ∧ acc.length ≤ i := ⟨_, rfl⟩
    refine ⟨fun i m H' => m + i = n ∧ Nw i H', ⟨n, by omega, by rw [hNw]; exact ⟨w1.at p (.dK []), S1, [], [], rfl, (Ext.refl w1).at _ hp, g1.at _ hF1 hA1, hF1, hA1, upd_same, .nil, h0, Nat.le_refl _⟩⟩, ?_⟩
    rintro i m H' ⟨hm, nw⟩
    have nw0 := nw
    rw [hNw] at nw
    obtain ⟨w', S', acc, accV, rfl, e', g', hF, hA, hH, hr, pp, hlen⟩ := nw
    obtain ⟨ds, hsrc, hlenD⟩ := hl i acc S' (by omega) pp
    have qq := ok w' S' ds i e' g' hsrc
    by_cases hlt : i < n
    · have hx' : ds[i]? = some ds[i] := List.getElem?_eq_getElem (by omega)
      obtain ⟨hgo, hy⟩ := qq.1 _ hx'
      refine .inr ⟨hgo, Nw (i + 1), fun H2 z => ⟨m - 1, by omega, by omega, z⟩, fun x H2 hyl => ?_⟩
      obtain ⟨w2, e2, g2, rfl, r2⟩ := hy x H2 hyl
      have sl2 : Slots K w2 (L2.wipe σ vs) (gwipe Γ vs) := (sl.ext ((e1.trans e').trans e2)).wipe vs
      have s1 := hk.keep x (L2.wipe σ vs) w2.H _ (hg _ (gwipe Γ vs) S' x (L2.wipe σ vs) w2 _ (fun σ2 H2 => tt σ2 H2 fun b H3 => if b = true then tk σ2 H3 fun y H4 => tv σ2 H4 fun z H5 => ∃ kvs k, y = kV k ∧ H5 p = some (.dK kvs) ∧ kvs.length < sizeLine ∧ Nw (i + 1) (upd H5 p (.dK (putK kvs k z))) else Nw (i + 1) H3) g2 sl2 r2 (hs i acc S' ds _ pp hsrc hx') fun σ3 Γ3 w3 S3 e3 g3 sl3 h3 => ?_)
      · rw [wipe_wipe σ vs vs fun _ z => z] at s1
        exact s1
      · have e23 := e2.trans e3
        refine ht Γ3 S3 _ _ σ3 w3 g3 sl3 h3 (fun _ _ _ _ _ _ _ _ z => z) _ fun b w4 S4 e4 g4 h4 => ?_
        have e24 := e23.trans e4
        cases b with
        | false =>
          obtain ⟨hH4, hF4, hA4⟩ := e24.hid hH hF hA
          show Nw (i + 1) w4.H
          rw [hNw]
          exact ⟨w4, S4, acc, accV, rfl, e'.trans e24, g4, hF4, hA4, hH4, RpK.mono e24.f e24.alx acc accV hr, h4, by omega⟩
        | true =>
          refine hky Γ3 S4 _ _ σ3 w4 g4 (sl3.ext e4) h4 (fun _ _ _ _ _ _ _ _ z => z) _ fun y dy w5 S5 e5 g5 r5 h5 => ?_
          refine hvl Γ3 S5 _ _ σ3 w5 g5 (sl3.ext (e4.trans e5)) h5 (fun _ _ _ _ _ _ _ _ z => z) _ fun z dz w6 S6 e6 g6 r6 ⟨k, ek, h6⟩ => ?_
          subst ek
          have e26 := e24.trans (e5.trans e6)
          obtain ⟨hH6, hF6, hA6⟩ := e26.hid hH hF hA
          have hr6 := RpK.mono e26.f e26.alx acc accV hr
          refine ⟨accV, k, kD_of r5, hH6, by rw [hr.len]; exact Nat.lt_of_lt_of_le (show acc.length < 1000000 by omega) (by decide), ?_⟩
          rw [hNw]
          refine ⟨w6.at p (.dK (putK accV k z)), S6, pKD acc k dz, putK accV k z, rfl, (e'.trans e26).at _ hp, g6.at _ hF6 hA6, hF6, hA6, upd_same, hr6.putE k r6, h6, ?_⟩
          have := pKD_len acc k dz
          omega
    · obtain rfl : i = n := by omega
      refine .inl ⟨qq.2 (by omega), ?_⟩
      have fin := q (.ref p) (.own S'.length) ⟨w'.F, w'.al ++ [p], upd w'.H p (.dK accV)⟩ (S' ++ [.dck acc]) (e1.trans (e'.madeC (.dK accV) hp)) (g'.madeC (c0 := .dck acc) hF hA ⟨hF, accV, upd_same, RpK.mono (fun _ _ z => z) (fun n b z => by
        show (w'.al ++ [p])[n]? = some b
        rw [List.getElem?_append_left (List.getElem?_eq_some_iff.mp z).1]; exact z) acc accV hr⟩) (own_last g') (hd acc S' pp)
      rw [show (⟨w'.F, w'.al ++ [p], upd w'.H p (.dK accV)⟩ : Hs).H = w'.H from upd_id hH] at fin
      exact fin
section
variable {X : Cx} {W : WX}
theorem ji_items (i : Nat) {x : Str} {p apos cpos tpos : Pos} {elts : List Expr} {kk} (hN : X.N[i]? = some x := by rfl) (hv : Vis X.env.scope x := by first | exact Or.inl rfl | exact Or.inr (Or.inl rfl) | exact Or.inr (Or.inr rfl)) (hd : (x == ("__debug__" : Str)) = false := by decide)
    (hcd : (x == ("__classdict__" : Str)) = false := by decide) (hbase : attributeBase (.Name x p) "items" X.env (eval (.Name x p) X.env) = eval (.Name x p) X.env := by rfl) (hline : (apos.endLine == cpos.line) = true := by rfl) :
    JI X W (.Tuple elts kk tpos) (.Call (.Attribute (.Name x p) "items" apos) [] [] cpos) (iItems (tVar i)) (iItD i) := ⟨pi_items (pe_var hN hv hd hcd) hbase hline, sem_items⟩
theorem js_lck (i : Nat) {st : Stmt} {t : TS} {T : TSd} (h : JS X W st t T) : JS X W st (tLock t) (sLck i T) := ⟨ps_lock h.ps, sem_lckS h.sem⟩
/-- name = {..} on one line, the name a local -/
theorem ps_setDc {i : Nat} {y : Str} {py : Pos} {kx vx tg iter : Expr} {ifs : List Expr} {scope : Scope} {own : List (Str × Nat)} {pos spos : Pos} {wi : TI} {g : TG} {tt : TT} {tk tv : TE} (hc : X.calm = true) (hN : X.N.Nodup) (hy : X.N[i]? = some y) (hyl : X.env.scope.names.lookup y = some .local)
    (hsw : swapsWith (.DictComp kx vx [⟨tg, iter, ifs, 0⟩] scope pos) (some (.Name y py)) spos.line X.env = pure true) (hi : PI X tg iter wi) (ok : BlkOk X.N X.env.scope scope own)
    (hg : ∀ s H C cl fp, PG (X.blk s H scope (compEnvC scope cl C X.env) fp) tg g) (ht : ∀ s H C cl fp, PTs (X.blk s H scope (compEnvC scope cl C X.env) fp) ifs tt)
    (hky : ∀ s H C cl fp, PE (X.blk s H scope (compEnvC scope cl C X.env) fp) kx tk) (hvl : ∀ s H C cl fp, PE (X.blk s H scope (compEnvC scope cl C X.env) fp) vx tv) (hs : ∀ x, foldedSetIterable iter X.env x = pure x := by intro _; rfl) :
    PS X (.Assign [.Name y py] (.DictComp kx vx [⟨tg, iter, ifs, 0⟩] scope pos) spos) (tAsg (tDc wi g tt tk tv (own.map (·.2))) (gName i)) := ⟨fun pins s σ H D J h => by
  rw [exec_Assign_Name_used _ _ _ _ hsw]; refine wpAny_bind (wpAny_standAt (wpAny_bind (show wpAny _ X.A (do let _ ← comprehension (.DictComp kx vx [⟨tg, iter, ifs, 0⟩] scope pos) scope X.env (firstIterPos [⟨tg, iter, ifs, 0⟩] pos) newDict false (eval iter X.env) (some (assign (.Name y py) X.env))) _ _ s from ?_)))
  have h' : tDc wi g tt tk tv (own.map (·.2)) σ H (fun x H1 => gName i x σ H1 D.nx) := h
  refine wpAny_bind (thn (dc_core (Qf := fun _ s' => SP X pins D .next s') hc hN J hi ok hg ht hky hvl hs h' fun L C s' m H' J' q hn f => ?_) fun _ s' hq => wpAny_pure (wpAny_pure hq))
  refine (show wpAny (model X.prog X.w) X.A (assign (.Name y py) X.env (.ref L)) _ _ _ from wpAny_assign_Name (store_ok2 (v := V.ref L) J' hN hy (.inl hyl) rfl (fun s2 J2 ⟨a, sb, ha⟩ => ?_) (.inr hyl)))
  obtain ⟨k0, k1, k2, k3, k4, k5⟩ := f
  have ne : C ≠ a := ha.elim (fun z => z ▸ k1) fun z e => k4 y a z e.symm
  exact ⟨m, hn.sameBut sb ne, fun h3 sb3 => ⟨_, H', J2.turned (t' := s2.toks) (fun b o hb e => (sb3.2 b hb).trans e) k0 k1 k3 k4 k5, q⟩⟩⟩
theorem sw_trueD {kx vx : Expr} {gs : List Comprehension} {scope : Scope} {pos py : Pos} {y : Str} {l : Nat} {env : Env} (hk : env.scope.kind = .function) (hy : env.scope.names.lookup y = some .local) (hl : (py.line == pos.line) = true)
    (ha : (scope.names.any fun (n, k) => n == y && (k == .local || k == .cell)) = false) : swapsWith (.DictComp kx vx gs scope pos) (some (.Name y py)) l env = pure true := by
  have k1 : env.kindOf y = some .local := hy
  have b1 : env.blockKind = .function := by unfold Env.blockKind; rw [hk]; rfl
  unfold swapsWith
  simp only [b1, k1, ha, Expr.pos, hl] <;> rfl
theorem js_setDc (i : Nat) {y : Str} {py spos : Pos} {kx vx tg iter : Expr} {ifs : List Expr} {scope : Scope} {own : List (Str × Nat)} {pos : Pos} {wi : TI} {g : Bk TG} {tt : Bk TT} {tk tv : Bk TE} {I : TId} {G : TGd} {C : TB} {Tk Tv : TD} (hc : X.calm = true) (hN : X.N.Nodup) (hi : JI X W tg iter wi I) (ok : BlkOk X.N X.env.scope scope own)
    (hg : ∀ s H C cl fp, JG (X.blk s H scope (compEnvC scope cl C X.env) fp) tg (g s H C cl fp) G) (hk : GK (own.map (·.2)) (g {} (fun _ => none) 0 [] [])) (ht : ∀ s H C' cl fp, JTs (X.blk s H scope (compEnvC scope cl C' X.env) fp) ifs (tt s H C' cl fp) C)
    (hky : ∀ s H C cl fp, JE (X.blk s H scope (compEnvC scope cl C X.env) fp) (fun _ _ _ _ => False) kx (tk s H C cl fp) Tk) (hvl : ∀ s H C cl fp, JE (X.blk s H scope (compEnvC scope cl C X.env) fp) (fun _ _ _ _ => False) vx (tv s H C cl fp) Tv)
    (hy : X.N[i]? = some y := by rfl) (hyl : X.env.scope.names.lookup y = some .local := by rfl)
    (hsw : swapsWith (.DictComp kx vx [⟨tg, iter, ifs, 0⟩] scope pos) (some (.Name y py)) spos.line X.env = pure true := by exact sw_trueD rfl rfl rfl (by decide +kernel)) (hs : ∀ x, foldedSetIterable iter X.env x = pure x := by intro _; rfl)
    (eg : ∀ s H C cl fp, g s H C cl fp = g {} (fun _ => none) 0 [] [] := by intros; rfl) (et : ∀ s H C cl fp, tt s H C cl fp = tt {} (fun _ => none) 0 [] [] := by intros; rfl) (ek : ∀ s H C cl fp, tk s H C cl fp = tk {} (fun _ => none) 0 [] [] := by intros; rfl) (ev : ∀ s H C cl fp, tv s H C cl fp = tv {} (fun _ => none) 0 [] [] := by intros; rfl) :
    JS X W (.Assign [.Name y py] (.DictComp kx vx [⟨tg, iter, ifs, 0⟩] scope pos) spos) (tAsg (tDc wi (g {} (fun _ => none) 0 [] []) (tt {} (fun _ => none) 0 [] []) (tk {} (fun _ => none) 0 [] []) (tv {} (fun _ => none) 0 [] []) (own.map (·.2))) (gName i)) (sAsg (dDc I G C Tk Tv (own.map (·.2))) (nmG i)) :=
  ⟨ps_setDc hc hN hy hyl hsw hi.pi ok (fun s H C cl fp => eg s H C cl fp ▸ (hg s H C cl fp).pg) (fun s H C cl fp => et s H C cl fp ▸ (ht s H C cl fp).pts) (fun s H C cl fp => ek s H C cl fp ▸ (hky s H C cl fp).pe) (fun s H C cl fp => ev s H C cl fp ▸ (hvl s H C cl fp).pe) hs,
    sem_asg (sem_dc hi.sem (hg {} (fun _ => none) 0 [] []).sem hk (ht {} (fun _ => none) 0 [] []).sem (hky {} (fun _ => none) 0 [] []).sem (hvl {} (fun _ => none) 0 [] []).sem) (sem_nmG i)⟩
end
end DL
namespace DL
open PySem PySem.Spec PyProof.Rows L2 PpSet
abbrev eSet (w : World) : Obj := { cls := .type "set", dict := none, data := .set #[] 0 (.fresh 0 0 (!w.params.followText "set-order")) }
/-- {elt for target in iter if ..}: the new set is o0 of its address, add says what adding leaves -/
def tScG (o0 : Addr → HO) (add : Addr → V → Hp → (Hp → Prop) → Prop) (wi : TI) (g : TG) (tt : TT) (te : TE) (vs : List Nat) : TE := fun σ H Q => wi σ H fun J H1 => ∀ Z, H1 Z = none → ∃ W : Nat → Nat → Hp → Prop, (∃ m, W 0 m (upd H1 Z (o0 Z))) ∧ ∀ i m H, W i m H →
  (J.stop i H ∧ Q (.ref Z) H) ∨ (J.go i H ∧ ∃ Nx : Hp → Prop, (∀ H', Nx H' → ∃ m', m' < m ∧ W (i + 1) m' H') ∧ ∀ x H', J.yld i H x H' → g x (L2.wipe σ vs) H' fun σ2 H2 => L2.wipe σ2 vs = L2.wipe σ vs ∧ tt σ2 H2 fun b H3 => if b = true then te σ2 H3 fun y H4 => add Z y H4 Nx else Nx H3)
section
variable {X : Cx}
abbrev Blk1 (X : Cx) (scope : Scope) (s : Shared) (H : Hp) (C : Addr) (cl : List (Str × Addr)) (fp : List Addr) : Cx := X.blk s H scope (compEnvC scope cl C X.env) fp
theorem scG_core {o0 : Addr → HO} {add : Addr → V → Hp → (Hp → Prop) → Prop} {pins : List (Addr × Obj)} {s : Shared} {σ : L2.St} {H : Hp} {Q : VK} {elt tg iter : Expr} {ifs : List Expr} {scope : Scope} {own : List (Str × Nat)} {pos pos' : Pos} {wi : TI} {g : TG} {tt : TT} {te : TE} {use : Option (Value → Sem Unit)} {Qf : Value → Shared → Prop}
    (hnew : ∀ (H : Hp) (h : Heap), ObjOk X.prog X.w H (h.push (eSet X.w)) h.objs.size (o0 h.objs.size))
    (hadd : ∀ (s0 : Shared) (H0 : Hp) (ce : Env) (fp : List Addr) {ps : List (Addr × Obj)} {τ : L2.St} {G : Hp} {t : Shared} {Z : Addr} {y : V} {u : Value} {N : Hp → Prop} {R : Shared → Prop} {E : Value → Shared → Prop}, Inv (X.blk s0 H0 scope ce fp) ps τ G t → RelV y u → add Z y G N → (∀ G' t', Inv (X.blk s0 H0 scope ce fp) ps τ G' t' → N G' → R t') →
      wpAny (model X.prog X.w) X.A (call (.builtin "set.add") [.ref Z, u]) (fun _ t' => R t') E t)
    (hc : X.calm = true) (hN : X.N.Nodup) (J0 : Inv X pins σ H s) (hi : PI X tg iter wi) (ok : BlkOk X.N X.env.scope scope own)
    (hg : ∀ s H C cl fp, PG (Blk1 X scope s H C cl fp) tg g) (ht : ∀ s H C cl fp, PTs (Blk1 X scope s H C cl fp) ifs tt)
    (he : ∀ s H C cl fp, PE (Blk1 X scope s H C cl fp) elt te) (hs : ∀ x, foldedSetIterable iter X.env x = pure x)
    (h : tScG o0 add wi g tt te (own.map (·.2)) σ H Q)
    (hRR : ∀ Z C s' m H', Inv X pins σ H' s' → Q (.ref Z) H' → s'.heap.Ns C m → FpOk X pins H' C → compPost (model X.prog X.w) X.A X.xe use Qf (.ref Z) C (.ok .next) s') :
    wpAny (model X.prog X.w) X.A (comprehension (.SetComp elt [⟨tg, iter, ifs, 0⟩] scope pos) scope X.env pos'
      (newSet (.type "set")) false (eval iter X.env) use) Qf X.xe s := by
  refine wpAny_comprehension_free (use := use) rfl hs (closure_ok fun y hy e => (ok.free y hy e).elim (fun k => J0.ok.has _ (.inl k)) fun k => J0.ok.has _ (.inr k)) ok.kind (fun y hy e => by rw [ok.uniq y hy, e]) (thn (hi.run pins s σ H _ J0 h) fun xv s1 hx => thn hx fun itv s2 q2 => ?_)
  obtain ⟨it, fp, tn, J, H2, rfl, J2, T, st2, f2, q⟩ := q2
  obtain ⟨Z, hZ⟩ : ∃ Z, s2.heap.objs.size = Z := ⟨_, rfl⟩
  apply newSet_ok; apply newEnv_comp
  obtain ⟨W, ⟨m0, w0⟩, turn⟩ := q Z (J2.hok.fresh (Nat.le_of_eq hZ))
  obtain ⟨s3, es3⟩ : ∃ s3 : Shared, s3 = { s2 with heap := s2.heap.push (eSet X.w) } := ⟨_, rfl⟩
  have h3 : s3.heap = s2.heap.push (eSet X.w) := by rw [es3]
  have J3 : Inv X pins σ (upd H2 Z (o0 Z)) s3 := by
    rw [es3]
    refine J2.laid (t' := s2.toks) (fun b o e => Heap.get?_push_of_some _ e) (Nat.le_of_eq hZ) ?_
    rw [← hZ]
    exact hnew _ _
  have f3 : ∀ b ∈ fp, FpOk X pins (upd H2 Z (o0 Z)) b ∧ b < s3.heap.objs.size := fun b hb => by
    obtain ⟨ob, eb, _⟩ := T.obj _ _ st2 b hb
    have hlt : b < s2.heap.objs.size := Heap.lt_size eb
    exact ⟨⟨by rw [upd_ne (hZ ▸ Nat.ne_of_lt hlt)]; exact (f2 b hb).1, (f2 b hb).2⟩, by rw [h3, Heap.size_push]; exact Nat.lt_succ_of_lt hlt⟩
  have st3 : tn 0 s3.heap := T.keep _ _ _ st2 fun b _ o e => h3 ▸ Heap.get?_push_of_some _ e
  have J4 := block_start J3 ok hN f3
  obtain ⟨C, eC⟩ : ∃ C, C = s3.heap.objs.size := ⟨_, rfl⟩
  obtain ⟨cl, ecl⟩ : ∃ cl, cl = cellsFrom (s3.heap.objs.size + 1) scope.names (cloFrom X.env.cells scope.names []) := ⟨_, rfl⟩
  obtain ⟨H3, eH3⟩ : ∃ H3, H3 = upd H2 Z (o0 Z) := ⟨_, rfl⟩
  obtain ⟨s4, es4⟩ : ∃ s4 : Shared, s4 = { s3 with heap := pushCells (s3.heap.push { cls := .type "dict", data := .dict #[] }) scope.names } := ⟨_, rfl⟩
  rw [← eH3] at J3 J4 w0 f3
  rw [← ecl, ← eC, ← es4] at J4
  have pg := hg s3 H3 C cl fp
  have pt := ht s3 H3 C cl fp
  have pe := he s3 H3 C cl fp
  have goal2 : codeAny (model X.prog X.w) X.A (.compStart (.SetComp elt [⟨tg, iter, ifs, 0⟩] scope pos) 0 (.ref it) (.ref Z) (compEnvC scope cl C X.env)) (compPost (model X.prog X.w) X.A X.xe use Qf (.ref Z) C) s4 := by
    obtain ⟨ce, hce⟩ : ∃ ce, compEnvC scope cl C X.env = ce := ⟨_, rfl⟩
    have cL : ce.locals = C := by rw [← hce]; rfl
    unfold Blk1 at pg pt pe
    rw [hce] at J4 pg pt pe ⊢
    have st4 : tn 0 s4.heap := T.keep _ _ _ st3 fun b _ o e => by rw [es4]; exact pushCells_keeps _ _ _ _ (Heap.get?_push_of_some _ e)
    have stat : ∀ {τ : L2.St} {G : Hp} {t : Shared}, Inv (X.blk s3 H3 scope ce fp) [] τ G t → (∀ b ∈ fp, G b = none) → ∀ b ∈ fp, FpOk (X.blk s3 H3 scope ce fp) [] G b := fun {τ G t} K1 hn b hb =>
      ⟨hn b hb, (K1.ok.exf b hb).1, K1.ok.exfs b hb, .inl hb, fun x c e => (K1.ok.exf b hb).2 x c e, fun p hp => by cases (show p ∈ ([] : List (Addr × Obj)) from hp)⟩
    have loop : codeAny (model X.prog X.w) X.A (.compLoop (.SetComp elt [⟨tg, iter, ifs, 0⟩] scope pos) 0 (.ref it) (.ref Z) ce) (compPost (model X.prog X.w) X.A X.xe use Qf (.ref Z) C) s4 := by
      refine compLoopS_any (fun n t => ∃ i G, Inv (X.blk s3 H3 scope ce fp) [] (L2.wipe σ (own.map (·.2))) G t ∧ tn i t.heap ∧ (∀ b ∈ fp, G b = none) ∧ W i n G) ?_ m0 ⟨0, H3, J4, st4, fun b hb => (f3 b hb).1.1, w0⟩
      rintro n s5 ⟨i, H5, J5, st5, n5, w5⟩
      rcases turn i n H5 w5 with ⟨stp, qq⟩ | ⟨go, Nx, hNx, stepQ⟩
      · refine thnF (T.done (X.blk s3 H3 scope ce fp) rfl rfl rfl hc i [] s5 _ H5 (fun _ _ => False) J5 (stat J5 n5) st5 stp) fun r s6 ⟨hr, J6⟩ => ?_
        cases hr
        have J7 : Inv X pins σ H5 s6 := J3.call' (ch := fp) J6.os J6.base J6.hok J6.bare fun b hb => let z := (f3 b hb).1; ⟨z.2.2.2.1, z.2.1, z.2.2.2.2.1, z.2.2.2.2.2⟩
        obtain ⟨m, hn, _⟩ := J6.loc
        have hn2 : s6.heap.Ns C m := cL ▸ hn
        have nC : H5 C = none := cL ▸ (show H5 ce.locals = none from J6.free)
        exact hRR Z C s6 m H5 J7 qq hn2 (J3.fpOk (Nat.le_of_eq eC.symm) nC)
      · refine thnF (T.item (X.blk s3 H3 scope ce fp) rfl rfl rfl hc i [] s5 _ H5 (fun _ _ => False) J5 (stat J5 n5) st5 go) fun r s6 ⟨u, hr, h6⟩ => ?_
        cases hr
        refine thnF h6 fun _ s7 ⟨x, H7, J7, r7, y7, st7, n7⟩ => ?_
        refine thnF (pg.run _ s7 _ H7 x u _ (J7.pinned (stat J7 n7) (T.obj _ _ st7)) r7 (stepQ x H7 y7)) fun _ s8 ⟨σ8, H8, J8, hw8, q8⟩ => ?_
        refine thnF (pt.run _ s8 σ8 H8 _ J8 q8) fun b s9 ⟨H9, J9, q9⟩ => ?_
        have fin : ∀ {G : Hp} {t : Shared}, Inv (X.blk s3 H3 scope ce fp) ([] ++ pinsAt fp s7.heap) σ8 G t → Nx G → ∃ m, m < n ∧ ∃ i G, Inv (X.blk s3 H3 scope ce fp) [] (L2.wipe σ (own.map (·.2))) G t ∧ tn i t.heap ∧ (∀ b ∈ fp, G b = none) ∧ W i m G := fun {G t} K1 nx => by
          obtain ⟨m1, hm1, w1⟩ := hNx G nx
          have pin1 : ∀ b ∈ fp, ∀ o, s7.heap.get? b = some o → t.heap.get? b = some o ∧ G b = none := fun b hb o e =>
            have z := K1.pin (b, o) (List.mem_append_right _ (List.mem_append_right _ (mem_pinsAt hb e)))
            ⟨z.1, z.2.1⟩
          have hl : (L2.wipe σ (own.map (·.2))).length = σ8.length := by rw [← hw8, wipe_length]
          exact ⟨m1, hm1, i + 1, G, (K1.unpinned (pins := [])).weak hl (fun j v e => (wipe_some (hw8 ▸ e)).1), T.keep _ _ _ st7 fun b hb o e => (pin1 b hb o e).1, fun b hb => (T.obj _ _ st7 b hb).elim fun o z => (pin1 b hb o z.1).2, w1⟩
        cases b with
        | false => exact fin J9 (by simpa using q9)
        | true =>
          rw [if_pos rfl] at q9
          refine thnF (pe.run _ s9 σ8 H9 _ J9 q9) fun z s10 ⟨yv, H10, J10, r10, ad⟩ => ?_
          exact hadd s3 H3 ce fp J10 r10 ad fun G t K1 nx => fin K1 nx
    refine codeAny_compStart_set loop ?_; exact T.self X.A 0 _ _ _ st4 loop
  rw [ecl, eC, es4, es3] at goal2
  rw [← hZ] at goal2
  exact goal2
theorem pe_scG {o0 : Addr → HO} {add : Addr → V → Hp → (Hp → Prop) → Prop} {elt tg iter : Expr} {ifs : List Expr} {scope : Scope} {own : List (Str × Nat)} {pos : Pos} {wi : TI} {g : TG} {tt : TT} {te : TE}
    (hnew : ∀ (H : Hp) (h : Heap), ObjOk X.prog X.w H (h.push (eSet X.w)) h.objs.size (o0 h.objs.size))
    (hadd : ∀ (s0 : Shared) (H0 : Hp) (ce : Env) (fp : List Addr) {ps : List (Addr × Obj)} {τ : L2.St} {G : Hp} {t : Shared} {Z : Addr} {y : V} {u : Value} {N : Hp → Prop} {R : Shared → Prop} {E : Value → Shared → Prop}, Inv (X.blk s0 H0 scope ce fp) ps τ G t → RelV y u → add Z y G N → (∀ G' t', Inv (X.blk s0 H0 scope ce fp) ps τ G' t' → N G' → R t') →
      wpAny (model X.prog X.w) X.A (call (.builtin "set.add") [.ref Z, u]) (fun _ t' => R t') E t)
    (hc : X.calm = true) (hN : X.N.Nodup) (hi : PI X tg iter wi) (ok : BlkOk X.N X.env.scope scope own)
    (hg : ∀ s H C cl fp, PG (Blk1 X scope s H C cl fp) tg g) (ht : ∀ s H C cl fp, PTs (Blk1 X scope s H C cl fp) ifs tt) (he : ∀ s H C cl fp, PE (Blk1 X scope s H C cl fp) elt te) (hs : ∀ x, foldedSetIterable iter X.env x = pure x := by intro _; rfl) :
    PE X (.SetComp elt [⟨tg, iter, ifs, 0⟩] scope pos) (tScG o0 add wi g tt te (own.map (·.2))) := ⟨fun pins s σ H Q J h => by
  rw [eval_SetComp]
  refine scG_core hnew hadd hc hN J hi ok hg ht he hs h fun Z C s' m H' J' q hn f => ⟨m, hn, fun h2 sb => ?_⟩
  obtain ⟨k0, k1, k2, k3, k4, k5⟩ := f
  exact ⟨.ref Z, H', J'.turned (t' := s'.toks) (fun b o hb e => (sb.2 b hb).trans e) k0 k1 k3 k4 k5, rfl, q⟩⟩
end
def addT (K : PySem.W.Frag) (P : Program) (w : World) (Z : Addr) (y : V) (H : Hp) (N : Hp → Prop) : Prop := ∃ (x : Addr) (k : List Int) (L : List (Addr × List Int)), y = .ref x ∧ SqT K H x (k.map V.int) ∧ H Z = some (SetTO P w Z L) ∧ (∀ p ∈ L, SqT K H p.1 (p.2.map V.int)) ∧ L.length + 1 < 64 ∧
  ∀ L', (k ∈ L.map (·.2) → L' = L) → (k ∉ L.map (·.2) → L'.Perm ((x, k) :: L)) → N (upd H Z (SetTO P w Z L'))
theorem newT {P : Program} {w : World} (H : Hp) (h : Heap) : ObjOk P w H (h.push (eSet w)) h.objs.size (SetTO P w h.objs.size []) := setTO_new (setTR_fresh (Heap.get?_push_size _ rfl)).t0
theorem addT_ok {Y : Cx} (hu : Y.A.units + 64 < cLine) {ps : List (Addr × Obj)} {τ : L2.St} {G : Hp} {t : Shared} {Z : Addr} {y : V} {u : Value} {N : Hp → Prop} {R : Shared → Prop} {E : Value → Shared → Prop} (J : Inv Y ps τ G t) (r : RelV y u) (a : addT Y.K Y.prog Y.w Z y G N) (h : ∀ G' t', Inv Y ps τ G' t' → N G' → R t') :
    wpAny (model Y.prog Y.w) Y.A (call (.builtin "set.add") [.ref Z, u]) (fun _ t' => R t') E t := by
  obtain ⟨x, k, L, rfl, hx, hZ, hL, hf, hn⟩ := a
  cases r
  have R0 : SetT0 Y.prog Y.w t.heap Z L := (J.hok Z _ hZ).1
  obtain ⟨es, ep, tb, R1⟩ := R0.full fun p hp => J.isT (hL p hp)
  obtain ⟨o, ho, hex, hd⟩ := R1.ob
  refine wpAny_call_entry F.slot_set_add ⟨o, ho, hex.1⟩ F.entry_set_add ?_ (F.args_set_add_2 _ _)
  unfold Builtin.«set.add» Builtin.Frozenset.oneOther; simp only [List.isEmpty_nil, bind_assoc]; unfold Builtin.Frozenset.addrOf setAdd
  iterate 2
    apply wpAny_bind; apply wpAny_pure
    try dsimp only
  apply wpAny_bind; apply wpAny_holding
  refine wpAny_bind (wpAny_pyHash_tuple (show Y.A.in1.units < cLine by first | omega | (simp; omega)) (J.isT hx) ?_)
  refine add_at (s := { t with toks := t.toks + (k.length + 1) }) R1 (J.isT hx) (show Y.A.in1.units < cLine by first | omega | (simp; omega)) hf fun b h' L' es' ep' t' hsb R2 c1 c2 => ?_
  refine (show wpAny _ _ (ret Value.none) _ _ _ from wpAny_pure ⟨_, rfl, ?_⟩)
  have he : ∃ v, h'.get? Z = some v := let ⟨q, z, _⟩ := R2.ob; ⟨q, z⟩
  exact h _ _ (J.write (e := Z) (t' := t.toks + (k.length + 1)) (by rw [hZ]; trivial) (.inl rfl) (fun b u hb hu => (hsb.2 b hb).trans hu) he (setTO_new R2.t0)) (hn L' c1 c2)
end DL
namespace DL
open PySem PySem.Spec PyProof.Rows L2
def ltP (a b : Int × Int) : Prop := a.1 < b.1 ∨ (a.1 = b.1 ∧ a.2 < b.2)
def prK (k : List Int) : Int × Int := (k.getD 0 0, k.getD 1 0)
theorem prs_bound : ∀ ps : List (Int × Int), ∃ B : Int, 0 < B ∧ ∀ p ∈ ps, p.1 < B ∧ p.2 < B
  | [] => ⟨1, by decide, fun p h => nomatch h⟩
  | p :: ps => by
    obtain ⟨B, h0, hB⟩ := prs_bound ps
    refine ⟨max B (max (p.1 + 1) (p.2 + 1)), by omega, fun q hq => ?_⟩
    rcases List.mem_cons.mp hq with e | m
    · rw [e]; omega
    · have := hB q m; omega
theorem code2 (B x y : Int) : TS.code B [x, y] = x * B + y := by
  have e0 : (B : Int) ^ 0 = 1 := Int.pow_zero B
  have e1 : (B : Int) ^ 1 = B := by rw [Int.pow_succ, e0, Int.one_mul]
  show x * B ^ 1 + (y * B ^ 0 + 0) = x * B + y
  rw [e1, e0, Int.add_zero, Int.mul_one]
theorem code_lt {B : Int} {p q : Int × Int} (h : TS.code B [p.1, p.2] ≤ TS.code B [q.1, q.2]) (ne : p ≠ q) (b1 : 0 ≤ p.2 ∧ p.2 < B) (b2 : 0 ≤ q.2 ∧ q.2 < B) : ltP p q := by
  rw [code2, code2] at h
  rcases Int.lt_trichotomy p.1 q.1 with c | c | c
  · exact .inl c
  · refine .inr ⟨c, ?_⟩
    rw [c] at h
    have h2 : p.2 ≤ q.2 := by omega
    rcases Int.lt_or_eq_of_le h2 with z | z
    · exact z
    · exact absurd (Prod.ext c z) ne
  · have h3 : (q.1 + 1) * B ≤ p.1 * B := Int.mul_le_mul_of_nonneg_right (by omega) (by omega)
    rw [Int.add_mul, Int.one_mul] at h3
    omega
def dSS (I : TId) (G : TGd) (Te : TD) (vs : List Nat) : TD := fun Γ S Φ Ψ => I Γ S (fun S1 src => ∃ (ps : List (Int × Int)) (ds : List D), src S1 = some ds ∧ ds.length = ps.length ∧ ps.length < 64 ∧ (∀ p ∈ ps, 0 ≤ p.1 ∧ 0 ≤ p.2) ∧
  (∀ (i : Nat) (d : D) (p : Int × Int), ds[i]? = some d → ps[i]? = some p → G d (gwipe Γ vs) S1 fun Γ2 S2 => S2 = S1 ∧ Te Γ2 S1 (fun S3 z => S3 = S1 ∧ z = prD p) (fun _ _ => False)) ∧
  (∀ qs : List (Int × Int), (∀ p, p ∈ qs ↔ p ∈ ps) → qs.Pairwise ltP → Φ S1 (.lst (qs.map prD)))) Ψ
theorem pr_at {K : PySem.W.Frag} {w : Hs} {v : V} {p : Int × Int} (r : Rv K w v (prD p)) : ∃ a, v = .ref a ∧ SqT K w.F a ([p.1, p.2].map V.int) := by
  cases r with
  | @tup a xs _ hq ra =>
    cases ra with
    | cons r1 rb =>
      cases rb with
      | cons r2 rc =>
        cases rc
        cases r1
        cases r2
        exact ⟨a, rfl, hq⟩
theorem sem_ss {K : PySem.W.Frag} {P : Program} {wd : World} {W : WX} {wi : TI} {g : TG} {te : TE} {I : TId} {G : TGd} {Te : TD} {vs : List Nat} (hi : SemI K W wi I) (hg : SemG K g G) (hk : GK vs g) (he : SemE K (fun _ _ _ _ => False) te Te) :
    SemE K W (tCB (rSortedT K P wd) (tCons (tScG (fun Z => SetTO P wd Z []) (addT K P wd) wi g tYes te vs) tNil)) (dSS I G Te vs) := fun Γ S Φ Ψ σ w g0 sl h hx Q q =>
  hi Γ S _ _ σ w g0 sl h hx _ fun J src w1 S1 e1 g1 ok ⟨ps, ds, hsrc, hlen, hfew, hpos, hs, hd⟩ => fun Z hZ => by
    have hF1 := g1.notF hZ
    have hA1 := g1.notA hZ
    obtain ⟨Nw, hNw⟩ : ∃ Nw : Nat → Hp → Prop, Nw = fun i H' => ∃ w' L, H' = w'.H ∧ Ext w1 w' ∧ Good K w' S1 ∧ w'.F Z = none ∧ Z ∉ w'.al ∧ w'.H Z = some (SetTO P wd Z L) ∧ (∀ x ∈ L, SqT K w'.F x.1 (x.2.map V.int)) ∧ (∀ k, k ∈ L.map (·.2) ↔ ∃ p ∈ ps.take i, k = [p.1, p.2]) ∧ L.length ≤ i := ⟨_, rfl⟩
    refine ⟨fun i m H' => m + i = ps.length ∧ Nw i H', ⟨ps.length, by omega, by rw [hNw]; exact ⟨w1.at Z (SetTO P wd Z []), [], rfl, (Ext.refl w1).at _ hZ, g1.at _ hF1 hA1, hF1, hA1, upd_same, by simp, by simp, Nat.le_refl _⟩⟩, ?_⟩
    rintro i m H' ⟨hm, nw⟩
    rw [hNw] at nw
    obtain ⟨w', L, rfl, e', g', hF, hA, hH, hL, hmem, hll⟩ := nw
    have qq := ok w' S1 ds i e' g' hsrc
    by_cases hlt : i < ps.length
    · have hx' : ds[i]? = some ds[i] := List.getElem?_eq_getElem (by omega)
      have hp' : ps[i]? = some ps[i] := List.getElem?_eq_getElem hlt
      obtain ⟨hgo, hy⟩ := qq.1 _ hx'
      refine .inr ⟨hgo, Nw (i + 1), fun H2 z => ⟨m - 1, by omega, by omega, z⟩, fun x H2 hyl => ?_⟩
      obtain ⟨w2, e2, g2, rfl, r2⟩ := hy x H2 hyl
      have sl2 : Slots K w2 (L2.wipe σ vs) (gwipe Γ vs) := (sl.ext ((e1.trans e').trans e2)).wipe vs
      have s1 := hk.keep x (L2.wipe σ vs) w2.H _ (hg _ (gwipe Γ vs) S1 x (L2.wipe σ vs) w2 _ (fun σ2 H2 => tYes σ2 H2 fun b H3 => if b = true then te σ2 H3 fun y H4 => addT K P wd Z y H4 (Nw (i + 1)) else Nw (i + 1) H3) g2 sl2 r2 (hs i _ _ hx' hp') fun σ3 Γ3 w3 S3 e3 g3 sl3 h3 => ?_)
      · rw [wipe_wipe σ vs vs fun _ z => z] at s1
        exact s1
      · obtain ⟨rfl, h3⟩ := h3
        refine (show te σ3 w3.H _ from he Γ3 S3 _ _ σ3 w3 g3 sl3 h3 (fun _ _ _ _ _ _ _ _ z => z) _ fun y dy w5 S5 e5 g5 r5 h5 => ?_)
        obtain ⟨rfl, rfl⟩ := h5
        obtain ⟨a, rfl, ha⟩ := pr_at r5
        have e25 := (e2.trans e3).trans e5
        obtain ⟨hH5, hF5, hA5⟩ := e25.hid hH hF hA
        have hL5 : ∀ x ∈ L, SqT K w5.F x.1 (x.2.map V.int) := fun x hxL => sameSqt e25.f (hL x hxL)
        refine ⟨a, [ps[i].1, ps[i].2], L, rfl, sameSqt g5.sub ha, hH5, fun x hxL => sameSqt g5.sub (hL5 x hxL), by omega, fun L' c1 c2 => ?_⟩
        have tk : ps.take (i + 1) = ps.take i ++ [ps[i]] := by rw [List.take_succ, hp']; rfl
        rw [hNw]
        by_cases hin : ([ps[i].1, ps[i].2] : List Int) ∈ L.map (·.2)
        · cases c1 hin
          refine ⟨w5.at Z (SetTO P wd Z L), L, rfl, (e'.trans e25).at _ hZ, g5.at _ hF5 hA5, hF5, hA5, upd_same, hL5, fun k => ?_, by omega⟩
          rw [hmem k, tk]
          constructor
          · rintro ⟨p, hp, e⟩; exact ⟨p, List.mem_append_left _ hp, e⟩
          · rintro ⟨p, hp, e⟩
            rcases List.mem_append.mp hp with (z | z)
            · exact ⟨p, z, e⟩
            · rw [List.mem_singleton.mp z] at e
              rw [e]
              exact (hmem _).mp hin
        · have pm := c2 hin
          refine ⟨w5.at Z (SetTO P wd Z L'), L', rfl, (e'.trans e25).at _ hZ, g5.at _ hF5 hA5, hF5, hA5, upd_same, fun x hxL => ?_, fun k => ?_, by rw [pm.length_eq, List.length_cons]; omega⟩
          · rcases List.mem_cons.mp (pm.mem_iff.mp hxL) with z | z
            · rw [z]; exact ha
            · exact hL5 x z
          · rw [(pm.map (·.2)).mem_iff, List.map_cons, List.mem_cons, hmem k, tk]
            constructor
            · rintro (e | ⟨p, hp, e⟩)
              · exact ⟨ps[i], List.mem_append_right _ (List.mem_singleton.mpr rfl), e⟩
              · exact ⟨p, List.mem_append_left _ hp, e⟩
            · rintro ⟨p, hp, e⟩
              rcases List.mem_append.mp hp with (z | z)
              · exact .inr ⟨p, z, e⟩
              · rw [List.mem_singleton.mp z] at e; exact .inl e
    · have hin : i = ps.length := by omega
      subst hin
      refine .inl ⟨qq.2 (by omega), ?_⟩
      rw [List.take_length] at hmem
      obtain ⟨B, hB0, hB⟩ := prs_bound ps
      have shape : ∀ x ∈ L, ∃ p ∈ ps, x.2 = [p.1, p.2] := fun x hxL => (hmem x.2).mp (List.mem_map.mpr ⟨x, hxL, rfl⟩)
      refine ⟨Z, L, 2, B, rfl, hH, fun x hxL => sameSqt g'.sub (hL x hxL), by decide, fun x hxL => ?_, fun L' p hpm hnd h64 hpw hp => ?_⟩
      · obtain ⟨pp, hpp, e⟩ := shape x hxL
        rw [e]
        refine ⟨rfl, fun z hz => ?_⟩
        have h1 := hpos pp hpp
        have h2 := hB pp hpp
        simp at hz
        rcases hz with rfl | rfl <;> omega
      · have sh : ∀ x ∈ L', ∃ p ∈ ps, x.2 = [p.1, p.2] := fun x hxL => shape x (hpm.mem_iff.mp hxL)
        have hq := hd (L'.map fun x => prK x.2) (fun pr => ?_) ?_
        · have e3 := Ext.frz g' (.lst (L'.map fun x => V.ref x.1)) hp
          refine q _ _ _ S1 (e1.trans (e'.trans e3)) (g'.frz _ hp) (.lst upd_same ?_) hq
          rw [List.map_map]
          have ra : ∀ M : List (Addr × List Int), (∀ x ∈ M, x ∈ L') → RpA K (w'.frz p (.lst (L'.map fun x => V.ref x.1))).F (w'.frz p (.lst (L'.map fun x => V.ref x.1))).al (M.map fun x => V.ref x.1) (M.map (prD ∘ fun x => prK x.2)) := by
            intro M
            induction M with
            | nil => intro _; exact .nil
            | cons x M ih =>
              intro hM
              obtain ⟨pp, _, e⟩ := sh x (hM x List.mem_cons_self)
              have hsq := hL x (hpm.mem_iff.mp (hM x List.mem_cons_self))
              rw [e] at hsq
              refine .cons ?_ (ih fun y hy => hM y (List.mem_cons_of_mem _ hy))
              show Rp K _ _ (.ref x.1) (prD (prK x.2))
              rw [e]
              exact .tup (sameSqt e3.f hsq) (.cons (.int _) (.cons (.int _) .nil))
          exact ra L' fun _ z => z
        · constructor
          · intro hm2
            obtain ⟨x, hxL, rfl⟩ := List.mem_map.mp hm2
            obtain ⟨pp, hpp, e⟩ := sh x hxL
            rw [e]
            exact hpp
          · intro hm2
            have : ([pr.1, pr.2] : List Int) ∈ L.map (·.2) := (hmem _).mpr ⟨pr, hm2, rfl⟩
            obtain ⟨x, hxL, e⟩ := List.mem_map.mp this
            exact List.mem_map.mpr ⟨x, hpm.mem_iff.mpr hxL, by rw [e]; rfl⟩
        · rw [List.pairwise_map]
          have hnd2 : L'.Pairwise fun x y => x.2 ≠ y.2 := List.pairwise_map.mp hnd
          refine List.Pairwise.imp_of_mem (fun {x y} hx1 hy1 hh => ?_) (hpw.and hnd2)
          obtain ⟨p1, m1, e1'⟩ := sh x hx1
          obtain ⟨p2, m2, e2'⟩ := sh y hy1
          rw [e1', e2'] at hh ⊢
          exact code_lt (p := p1) (q := p2) hh.1 (fun z => hh.2 (by rw [z])) ⟨(hpos p1 m1).2, (hB p1 m1).2⟩ ⟨(hpos p2 m2).2, (hB p2 m2).2⟩
section
variable {X : Cx} {W : WX}
theorem je_ss {elt tg iter : Expr} {scope : Scope} {own : List (Str × Nat)} {spos pos p : Pos} {wi : TI} {g : Bk TG} {te : Bk TE} {I : TId} {G : TGd} {Te : TD} (hc : X.calm = true) (hN : X.N.Nodup) (hu : X.A.units + 64 < cLine) (hgl : Gl X "sorted") (hm : X.mg "sorted" = none) (hi : JI X W tg iter wi I) (ok : BlkOk X.N X.env.scope scope own)
    (hg : ∀ s H C cl fp, JG (X.blk s H scope (compEnvC scope cl C X.env) fp) tg (g s H C cl fp) G) (hk : GK (own.map (·.2)) (g {} (fun _ => none) 0 [] []))
    (he : ∀ s H C cl fp, JE (X.blk s H scope (compEnvC scope cl C X.env) fp) (fun _ _ _ _ => False) elt (te s H C cl fp) Te) (hs : ∀ x, foldedSetIterable iter X.env x = pure x := by intro _; rfl)
    (eg : ∀ s H C cl fp, g s H C cl fp = g {} (fun _ => none) 0 [] [] := by intros; rfl) (ee : ∀ s H C cl fp, te s H C cl fp = te {} (fun _ => none) 0 [] [] := by intros; rfl)
    (hst : starEach [Expr.SetComp elt [⟨tg, iter, [], 0⟩] scope spos] X.env = (false, eval (Expr.SetComp elt [⟨tg, iter, [], 0⟩] scope spos) X.env) :: starEach [] X.env := by rfl) (hv : bootBuiltins "sorted" = some (.builtin "sorted") := by first | rfl | decide +kernel) :
    JE X W (.Call (.Name "sorted" p) [.SetComp elt [⟨tg, iter, [], 0⟩] scope spos] [] pos) (tCB (rSortedT X.K X.prog X.w) (tCons (tScG (fun Z => SetTO X.prog X.w Z []) (addT X.K X.prog X.w) wi (g {} (fun _ => none) 0 [] []) tYes (te {} (fun _ => none) 0 [] []) (own.map (·.2))) tNil)) (dSS I G Te (own.map (·.2))) :=
  ⟨pe_callB (cr_sortedT hc) hgl hm hv (pa_cons (pe_scG newT (fun s0 H0 ce fp => addT_ok (Y := X.blk s0 H0 scope ce fp) hu) hc hN hi.pi ok (fun s H C cl fp => eg s H C cl fp ▸ (hg s H C cl fp).pg) (fun s H C cl fp => pts_nil) (fun s H C cl fp => ee s H C cl fp ▸ (he s H C cl fp).pe) hs) pa_nil hst) (by decide) (by decide) hst rfl,
    sem_ss hi.sem (hg {} (fun _ => none) 0 [] []).sem hk (he {} (fun _ => none) 0 [] []).sem⟩
end
section
variable {Γ : Gam} {S : Sto} {Φ : KD} {Ψ : KX}
theorem dSS_e {I : TId} {G : TGd} {Te : TD} {vs : List Nat} : dSS I G Te vs Γ S Φ Ψ = I Γ S (fun S1 src => ∃ (ps : List (Int × Int)) (ds : List D), src S1 = some ds ∧ ds.length = ps.length ∧ ps.length < 64 ∧ (∀ p ∈ ps, 0 ≤ p.1 ∧ 0 ≤ p.2) ∧
  (∀ (i : Nat) (d : D) (p : Int × Int), ds[i]? = some d → ps[i]? = some p → G d (gwipe Γ vs) S1 fun Γ2 S2 => S2 = S1 ∧ Te Γ2 S1 (fun S3 z => S3 = S1 ∧ z = prD p) (fun _ _ => False)) ∧
  (∀ qs : List (Int × Int), (∀ p, p ∈ qs ↔ p ∈ ps) → qs.Pairwise ltP → Φ S1 (.lst (qs.map prD)))) Ψ := rfl
end
end DL
namespace DL
open PySem PySem.Spec PyProof.Rows L2
def ipM : TIp := fun x y H Q => ∃ i j, x = .int i ∧ y = .int j ∧ CMulA i j ∧ Q (.int (i * j)) H
theorem ip_mulA {X : Cx} : PIp X .Mult ipM := by
  intro pins s σ H x y u v Q I rx ry h
  obtain ⟨i, j, rfl, rfl, hc, q⟩ := h
  obtain ⟨t, rfl⟩ : ∃ t, u = Value.int i t := rx
  obtain ⟨t', rfl⟩ : ∃ t, v = Value.int j t := ry
  exact PyProof.Rows.imul_int ⟨.int (i * j), H, I.tok _, ⟨_, rfl⟩, q⟩ (hc.elim CMul.ok CMulW.ok)
def dMulI (x y : D) (S : Sto) (Φ : KD) : Prop := ∃ i j, x = .int i ∧ y = .int j ∧ CMulA i j ∧ Φ S (.int (i * j))
theorem ipd_mulI {K : PySem.W.Frag} : IpD K ipM dMulI := fun w S x y u v Φ Q g r1 r2 ⟨i, j, e1, e2, hc, h⟩ q => by
  subst e1 e2
  exact ⟨i, j, rv_int r1, rv_int r2, hc, q _ _ w S (Ext.refl w) g (.int _) h⟩
section
variable {S : Sto} {Φ : KD}
theorem dMulI_i {i j : Int} : dMulI (.int i) (.int j) S Φ = (CMulA i j ∧ Φ S (.int (i * j))) := propext ⟨fun ⟨_, _, e1, e2, h⟩ => by cases e1; cases e2; exact h, fun h => ⟨_, _, rfl, rfl, h⟩⟩
end
end DL
namespace DL
open PySem PySem.Spec PyProof.Rows L2
def dST (T : TD) : TD := fun Γ S Φ Ψ => T Γ S (fun S1 d => ∃ ps : List (Int × Int), asQ S1 d = some (ps.map prD) ∧ ps.length < 64 ∧ (∀ p ∈ ps, 0 ≤ p.1 ∧ 0 ≤ p.2) ∧ ∀ qs : List (Int × Int), (∀ p, p ∈ qs ↔ p ∈ ps) → qs.Pairwise ltP → Φ S1 (.lst (qs.map prD))) Ψ
section
variable {Γ : Gam} {S : Sto} {Φ : KD} {Ψ : KX}
theorem dST_e {T : TD} : dST T Γ S Φ Ψ = T Γ S (fun S1 d => ∃ ps : List (Int × Int), asQ S1 d = some (ps.map prD) ∧ ps.length < 64 ∧ (∀ p ∈ ps, 0 ≤ p.1 ∧ 0 ≤ p.2) ∧ ∀ qs : List (Int × Int), (∀ p, p ∈ qs ↔ p ∈ ps) → qs.Pairwise ltP → Φ S1 (.lst (qs.map prD))) Ψ := rfl
end
end DL
namespace DL
open PySem PySem.Spec PyProof.Rows L2
section
variable {X : Cx}
def rInE (K : PySem.W.Frag) : R2 := fun x y H Q => ∃ d ds, Dp K H x d ∧ Dp K H y (.list ds) ∧ SeqAt.shaped d = true ∧ SeqAt.shaped (.list ds) = true ∧ d.depth < 63 ∧ Q (.bl (ds.any fun z => PyData.eqv z d)) H
def rNotInE (K : PySem.W.Frag) : R2 := fun x y H Q => ∃ d ds, Dp K H x d ∧ Dp K H y (.list ds) ∧ SeqAt.shaped d = true ∧ SeqAt.shaped (.list ds) = true ∧ d.depth < 63 ∧ Q (.bl (!ds.any fun z => PyData.eqv z d)) H
theorem op_inE (hu : X.A.units + 64 < cLine) : OpR X (compareOp .In) (rInE X.K) := fun pins s σ H x y v u Q I rx ry ⟨d, ds, hd, he, sd, se, hn, q⟩ => by
  obtain ⟨as, r1⟩ := Dp.reads I d x v hd rx
  obtain ⟨bs, r2⟩ := Dp.reads I (.list ds) y u he ry
  have : min (PyData.depthAll ds) d.depth ≤ d.depth := Nat.min_le_right _ _
  exact SeqAt.in_list_reads r2 r1 (SeqAt.canLay_of_shaped se) (SeqAt.canLay_of_shaped sd) (by omega) ⟨.bl _, H, I, rfl, q⟩
theorem op_notInE (hu : X.A.units + 64 < cLine) : OpR X (compareOp .NotIn) (rNotInE X.K) := fun pins s σ H x y v u Q I rx ry ⟨d, ds, hd, he, sd, se, hn, q⟩ => by
  obtain ⟨as, r1⟩ := Dp.reads I d x v hd rx
  obtain ⟨bs, r2⟩ := Dp.reads I (.list ds) y u he ry
  have : min (PyData.depthAll ds) d.depth ≤ d.depth := Nat.min_le_right _ _
  exact SeqAt.notIn_list_reads r2 r1 (SeqAt.canLay_of_shaped se) (SeqAt.canLay_of_shaped sd) (by omega) ⟨.bl _, H, I, rfl, q⟩
end
def dInE (x y : D) (S : Sto) (Φ : KD) : Prop := ∃ p ps, PyR S x p ∧ PyR S y (.list ps) ∧ SeqAt.shaped p = true ∧ SeqAt.shaped (.list ps) = true ∧ p.depth < 63 ∧ Φ S (.bl (ps.any fun z => PyData.eqv z p))
def dNotInE (x y : D) (S : Sto) (Φ : KD) : Prop := ∃ p ps, PyR S x p ∧ PyR S y (.list ps) ∧ SeqAt.shaped p = true ∧ SeqAt.shaped (.list ps) = true ∧ p.depth < 63 ∧ Φ S (.bl (!ps.any fun z => PyData.eqv z p))
theorem opd_inE {K : PySem.W.Frag} : OpD K (rInE K) dInE := fun w S x y u v Φ Q g r1 r2 ⟨p, ps, h1, h2, h3, h4, h6, h5⟩ q => ⟨p, ps, dp_of g p u x h1 r1, dp_of g (.list ps) v y h2 r2, h3, h4, h6, q _ _ w S (Ext.refl w) g (.bl _) h5⟩
theorem opd_notInE {K : PySem.W.Frag} : OpD K (rNotInE K) dNotInE := fun w S x y u v Φ Q g r1 r2 ⟨p, ps, h1, h2, h3, h4, h6, h5⟩ q => ⟨p, ps, dp_of g p u x h1 r1, dp_of g (.list ps) v y h2 r2, h3, h4, h6, q _ _ w S (Ext.refl w) g (.bl _) h5⟩
section
variable {X : Cx} {W : WX} {e : Expr} {te : TE} {Te : TD} {f : Str} {pos : Pos}
/-- x.f in a suite: the frame's table given from outside -/
theorem je_xfldK {K0 : PySem.W.Frag} {Cs : List Addr} (c : ∀ D ∈ Cs, XFldF K0 D f) (he : JE X W e te Te) (hb : attributeBase e f X.env (eval e X.env) = eval e X.env := by rfl) (hK : X.K = K0 := by rfl) : JE X W (.Attribute e f pos) (tXFld K0 te f) (dXFld Cs f Te) := by
  subst hK
  exact je_xfld c he hb
end
end DL
namespace L2
open PySem PySem.Spec PyProof.Rows
abbrev bareSet (w : World) : Obj := { cls := .type "set", dict := none, data := .set #[] 0 (.fresh 0 0 (!w.params.followText "set-order")) }
section
variable {P : Program} {w : World} {A : Around} {E : Value → Shared → Prop} {s : Shared}
/-- the set of a list of whole numbers, with its table -/
theorem set_of_ints {l : Addr} {xs : Array Value} (ns : List Int) {Q : Value → Shared → Prop} (calm : A.handled = none) (isl : s.heap.IsList l xs) (are : IntsAre xs.toList ns) (room : ns.length + 1 < scanBound)
    (fin : ∀ (g : Heap) (tk c : Nat), SetR w g s.heap.objs.size (fun j => decide (j ∈ ns)) c → c ≤ ns.length → (∀ b o, s.heap.get? b = some o → g.get? b = some o) → Q (.ref s.heap.objs.size) { s with heap := g, toks := tk }) : wpAny (model P w) A (call (.type "set") [.ref l]) Q E s := by
  have hsz : xs.size = ns.length := Array.length_toList ▸ IntsAre.length are
  obtain ⟨c0, tl0, mro0⟩ := F.called_set.mro
  have made0 := F.called_set.made
  have sub0 := F.called_set.sub
  refine wpAny_call (codeAny_of_tree ?_)
  show wpAny _ _ (callAny (.type "set") _) _ _ _
  refine wpAny_pure ⟨Code.quiet_builtin _ (by decide +kernel), codeAny_builtin (F.entry_type_call) ?_⟩
  rw [Around.under_plain (weight_type_call_type "set" [Value.ref l] []) rfl]
  have nt0 := F.called_set.notType
  have cc0 := F.called_set.canCreate
  have tc0 := F.typeCall_set_1 (Value.ref l)
  repeat (any_goals (first | wp_step | assumption))
  refine codeAny_mono (code_set_led1 (.ref l) (E := E) (Q₁ := fun v t => v = .ref s.heap.objs.size ∧ t = { s with heap := s.heap.push (bareSet w) }) ⟨rfl, rfl⟩) fun r t hr => ?_
  cases r with
  | error _ => exact hr
  | ok fl =>
    cases fl with
    | ret v =>
      obtain ⟨rfl, rfl⟩ := hr
      have at0 : (s.heap.push (bareSet w)).get? s.heap.objs.size = some (bareSet w) := Heap.get?_push_size _ rfl
      have ty0 : Shared.TypeIs { s with heap := s.heap.push (bareSet w) } (.ref s.heap.objs.size) "set" := ⟨_, at0, rfl⟩
      have lk0 := F.called_set.init.lookup
      have bd0 := F.called_set.init.bind (.ref s.heap.objs.size)
      repeat (any_goals (first | wp_step | assumption))
      refine codeAny_mono (codeAny_call_builtin (R := wants (fun v t => v = .none ∧ ∃ g tk c, t = { s with heap := g, toks := tk } ∧ SetR w g s.heap.objs.size (fun j => decide (j ∈ ns)) c ∧ c ≤ ns.length ∧ (∀ b o, s.heap.get? b = some o → g.get? b = some o)) E) F.called_set.init.plain F.entry_set_init (check_set_init_1 ty0 ?_)) fun v2 t2 hv2 => ?_
      · obtain ⟨⟨kc, kd, kx, ks⟩, ho, hc, m, hd⟩ := isl
        simp only at hc hd
        subst hc; subst hd
        have ho1 : (s.heap.push (bareSet w)).get? l = some { cls := .type "list", dict := kd, data := .seq xs m, slots := ks } := Heap.get?_push_of_some _ ho
        have s1 := F.sub_list_set
        have s2 := F.sub_list_frozenset
        have s3 : (Value.type "list" == Value.type "dict") = false := rfl
        have isl1 : (s.heap.push (bareSet w)).IsList l xs := ⟨_, ho1, rfl, m, rfl⟩
        unfold Builtin.«set.__init__» noKeywords Builtin.Frozenset.updateFrom
        generalize hit : pyIter = it
        wp_walk
        subst hit
        refine wpAny_pyIter_list isl1 ?_
        refine wpAny_bind (wpAny_runValue ?_)
        have low : l < s.heap.objs.size := Heap.lt_size ho
        have calm3 : A.in1.in1.in1.handled = none := by simp [calm]
        have neI : l ≠ (s.heap.push (bareSet w)).objs.size := by
          rw [Heap.size_push]
          exact Nat.ne_of_lt (Nat.lt_succ_of_lt low)
        have notS : s.heap.objs.size ∉ [(s.heap.push (bareSet w)).objs.size, l] := by
          rw [Heap.size_push]
          simp only [List.mem_cons, List.mem_singleton, List.not_mem_nil, or_false, not_or]
          exact ⟨Nat.ne_of_lt (Nat.lt_succ_self _), Nat.ne_of_gt low⟩
        have val : ∀ (i : Nat) (v : Value), xs[i]? = some v → ∃ k t, ns[i]? = some k ∧ v = .int k t := fun i v hv => by
          have hi : i < ns.length := hsz ▸ (Array.getElem?_eq_some_iff.mp hv).1
          obtain ⟨t, e⟩ := IntsAre.int_at are i v (by rw [Array.getElem?_toList]; exact hv)
          rw [List.getD_eq_getElem?_getD, List.getElem?_eq_getElem hi] at e
          exact ⟨ns[i], t, List.getElem?_eq_getElem hi, e⟩
        refine set_update_ints ((Walks.list calm3 _ l neI xs).toS) s.heap.objs.size notS ns hsz room val (xs.size - 0) 0 _ (by omega) (Nat.zero_le _) ⟨⟨_, Heap.get?_push_size _ rfl, rfl, rfl⟩, isl1.push _⟩ ?start ?stop
        case start =>
          have at1 : ((s.heap.push (bareSet w)).push { cls := .type "list_iterator", data := .fields #[.ref l, .int 0 0] }).get? s.heap.objs.size = some (bareSet w) := Heap.get?_push_of_some _ at0
          exact ⟨0, Nat.le_refl 0, setR_new_at at1⟩
        case stop =>
          intro t c mv hc hS
          obtain ⟨g, g2, dr, tk, os2⟩ := t
          have q1 : g2 = s.gens := mv.gens
          have q2 : dr = s.drawn := mv.drawn
          have q3 : os2 = s.os := mv.os
          subst q1; subst q2; subst q3
          show wpAny _ _ _ _ _ _
          refine wpAny_pure ?_
          show wpAny _ _ (ret Value.none) _ _ _
          refine wpAny_pure ⟨rfl, g, tk, c, rfl, hS, hsz ▸ hc, fun b o ho2 => ?_⟩
          have hb := Heap.lt_size ho2
          refine mv.heap b o ?_ (Heap.get?_push_of_some _ (Heap.get?_push_of_some _ ho2))
          rw [Heap.size_push]
          simp only [List.mem_cons, List.mem_singleton, List.not_mem_nil, or_false, not_or]
          exact ⟨Nat.ne_of_lt hb, Nat.ne_of_lt (Nat.lt_succ_of_lt hb)⟩
      · cases v2 with
        | error _ => exact hv2
        | ok fl2 =>
          cases fl2 with
          | ret v =>
            obtain ⟨rfl, g, tk, c, rfl, hS, hc, hk⟩ := hv2
            repeat (any_goals (first | wp_step | assumption))
            exact fin g tk c hS hc hk
          | _ => exact hv2.elim
    | _ => exact hr.elim
end
section
variable {X : Cx}
/-- set(xs), xs a list of whole numbers -/
def rSetOfI (K : PySem.W.Frag) (w : World) : List V → Hp → VK → Prop := fun xs H Q => ∃ (l : Addr) (ns : List Int), xs = [V.ref l] ∧ SqL K H l (ns.map V.int) ∧ ns.length ≤ 4000 ∧ ∀ a (ks : List Int), H a = none → ks.Nodup → (∀ k, k ∈ ks ↔ k ∈ ns) → Q (.ref a) (upd H a (SetO w a (fun j => decide (j ∈ ns)) ks.length))
theorem cr_setOfI (hc : X.calm = true) : CallR X (.type "set") (rSetOfI X.K X.w) := by
  intro pins s σ H xs us Q I r ⟨l, ns, e, hl, hz, q⟩
  subst e
  rw [Vals.ref1 r]
  obtain ⟨its, rv, pl, _⟩ := I.list hl
  have hn : H s.heap.objs.size = none := I.hok.fresh (Nat.le_refl _)
  have hsb : ns.length + 1 < scanBound := by unfold scanBound; omega
  refine set_of_ints (P := X.prog) (w := X.w) ns (I.ok.hd hc) pl.isList (by simpa using ints_of_vals rv) hsb fun g tk c R hcl k => ?_
  obtain ⟨ks, kn, kl, km⟩ : ∃ ks : List Int, ks.Nodup ∧ ks.length = c ∧ ∀ k, k ∈ ks ↔ k ∈ ns := by
    obtain ⟨o, es, ep, t, _, _, _, _, nd, hm, _, _, hs, _⟩ := R
    exact ⟨es.toList.map keyOf, nd, by rw [List.length_map, Array.length_toList]; exact hs, fun k => by rw [← hm k]; exact decide_eq_true_iff⟩
  rw [← kl] at R
  exact ⟨.ref s.heap.objs.size, upd H s.heap.objs.size (SetO X.w s.heap.objs.size (fun j => decide (j ∈ ns)) ks.length), I.laid (t' := tk) k (Nat.le_refl _) (setO_new R), rfl, q _ ks hn kn km⟩
end
end L2
namespace DL
open PySem PySem.Spec PyProof.Rows L2
theorem nodup_few {α : Type} [DecidableEq α] : ∀ (as bs : List α), as.Nodup → (∀ a ∈ as, a ∈ bs) → as.length ≤ bs.length
  | [], _, _, _ => Nat.zero_le _
  | a :: as, bs, h, hs => by
    have ⟨n1, n2⟩ := List.nodup_cons.mp h
    have ha := hs a List.mem_cons_self
    have := nodup_few as (bs.erase a) n2 fun b hb => (List.mem_erase_of_ne fun (e : b = a) => n1 (e ▸ hb)).mpr (hs b (List.mem_cons_of_mem _ hb))
    have := List.length_erase_of_mem ha
    have := List.length_pos_of_mem ha
    show as.length + 1 ≤ bs.length
    omega
/-- sorted(set(xs)): all members, rising -/
def dSI (T : TD) : TD := fun Γ S Φ Ψ => T Γ S (fun S1 d => ∃ ns ms : List Int, asQ S1 d = some (ns.map D.int) ∧ ns.length ≤ 4000 ∧ ms.length < 64 ∧ (∀ k ∈ ns, k ∈ ms) ∧ ∀ qs : List Int, (∀ k, k ∈ qs ↔ k ∈ ns) → qs.Pairwise (· < ·) → Φ S1 (.lst (qs.map D.int))) Ψ
theorem ra_intsV {K : PySem.W.Frag} {w : Hs} : ∀ {ns : List Int} {vs : List V}, Ra K w vs (ns.map D.int) → vs = ns.map V.int
  | [], _, .nil => rfl
  | n :: ns, _, .cons r t => by
    cases r
    rw [ra_intsV t]
    rfl
theorem ra_intsD {K : PySem.W.Frag} {w : Hs} : ∀ ns : List Int, RpA K w.F w.al (ns.map V.int) (ns.map D.int)
  | [] => .nil
  | n :: ns => .cons (.int n) (ra_intsD ns)
theorem sem_si {K : PySem.W.Frag} {wd : World} {W : WX} {te : TE} {T : TD} (he : SemE K W te T) : SemE K W (tCB (rSortedSet wd) (tCons (tCB (rSetOfI K wd) (tCons te tNil)) tNil)) (dSI T) := fun Γ S Φ Ψ σ w g sl h hx Q q =>
  he Γ S _ _ σ w g sl h hx _ fun v d w1 S1 e1 g1 r1 ⟨ns, ms, ed, hf, hm, hs, hd⟩ => by
    obtain ⟨l, xs, rfl, hl, ra⟩ := asQ_at g1 r1 ed
    have ex := ra_intsV ra
    subst ex
    refine ⟨l, ns, rfl, hl, hf, fun a ks ha kn km => ?_⟩
    have hF := g1.notF ha
    have hA := g1.notA ha
    have e2 := (Ext.refl w1).at (SetO wd a (fun j => decide (j ∈ ns)) ks.length) ha
    refine ⟨a, _, ks.length, rfl, upd_same, Nat.lt_of_le_of_lt (nodup_few ks ms kn fun k hk => hs k ((km k).mp hk)) hm, fun qs p hr hq _ hp => ?_⟩
    have g2 := g1.at (SetO wd a (fun j => decide (j ∈ ns)) ks.length) hF hA
    have e3 := Ext.frz g2 (.lst (qs.map V.int)) hp
    exact q _ _ _ S1 ((e1.trans e2).trans e3) (g2.frz _ hp) (.lst upd_same (ra_intsD qs)) (hd qs (fun k => by rw [hq k]; exact decide_eq_true_iff) hr)
section
variable {X : Cx} {W : WX} {e : Expr} {te : TE} {T : TD} {p p2 spos pos : Pos}
theorem je_si (hc : X.calm = true) (hg : Gl X "sorted") (hm : X.mg "sorted" = none) (hg2 : Gl X "set") (hm2 : X.mg "set" = none) (he : JE X W e te T)
    (h1 : starEach [e] X.env = (false, eval e X.env) :: starEach [] X.env := by rfl) (h2 : starEach [Expr.Call (.Name "set" p2) [e] [] spos] X.env = (false, eval (Expr.Call (.Name "set" p2) [e] [] spos) X.env) :: starEach [] X.env := by rfl)
    (hv : bootBuiltins "sorted" = some (.builtin "sorted") := by first | rfl | decide +kernel) (hv2 : bootBuiltins "set" = some (.type "set") := by first | rfl | decide +kernel) :
    JE X W (.Call (.Name "sorted" p) [.Call (.Name "set" p2) [e] [] spos] [] pos) (tCB (rSortedSet X.w) (tCons (tCB (rSetOfI X.K X.w) (tCons te tNil)) tNil)) (dSI T) :=
  ⟨pe_callB (cr_sortedSet hc) hg hm hv (pa_cons (pe_callTy (cr_setOfI hc) hg2 hm2 hv2 (pa_cons he.pe pa_nil h1) (by decide) (by decide) h1 rfl) pa_nil h2) (by decide) (by decide) h2 rfl, sem_si he.sem⟩
end
section
variable {Γ : Gam} {S : Sto} {Φ : KD} {Ψ : KX}
theorem dSI_e {T : TD} : dSI T Γ S Φ Ψ = T Γ S (fun S1 d => ∃ ns ms : List Int, asQ S1 d = some (ns.map D.int) ∧ ns.length ≤ 4000 ∧ ms.length < 64 ∧ (∀ k ∈ ns, k ∈ ms) ∧ ∀ qs : List Int, (∀ k, k ∈ qs ↔ k ∈ ns) → qs.Pairwise (· < ·) → Φ S1 (.lst (qs.map D.int))) Ψ := rfl
end
end DL
namespace L2
open PySem PySem.Spec PyProof.Rows
section
variable {X : Cx}
def rIndexE (K : PySem.W.Frag) : V → List V → Hp → VK → Prop := fun x xs H Q => ∃ (l : Addr) (y : V) (p : PyData) (ps : List PyData) (j : Nat) (q : PyData), x = V.ref l ∧ xs = [y] ∧ Dp K H (V.ref l) (.list ps) ∧ Dp K H y p ∧ SeqAt.shaped (.list ps) = true ∧ SeqAt.shaped p = true ∧ p.depth < 63 ∧
  ps[j]? = some q ∧ PyData.eqv q p = true ∧ (∀ (m : Nat) (q' : PyData), m < j → ps[m]? = some q' → PyData.eqv q' p = false) ∧ Q (.int (j : Nat)) H
theorem mt_indexE (hu : X.A.units + 64 < cLine) : MtR X "list.index" (rIndexE X.K) := fun pins s σ H x xs v us Q I rx rxs ⟨l, y, p, ps, j, q, e1, e2, dl, dy, sl, sp, few, at_j, same, before, fin⟩ => by
  subst e1
  subst e2
  cases rx
  match us, rxs with
  | [u], .cons ru .nil =>
    obtain ⟨bs, rd⟩ := Dp.reads I p y u dy ru
    have lay : PyData.canLayAll0 ps = true := SeqAt.canLay_of_shaped sl
    have deep : X.A.units + 1 + min (PyData.depthAll ps) p.depth < cLine := by
      have : min (PyData.depthAll ps) p.depth ≤ p.depth := Nat.min_le_right _ _
      omega
    cases dl with
    | lst hq hd =>
      obtain ⟨its, rv, ⟨⟨kc, kd, kx, ks⟩, n, ho, hc, hn0, hx⟩, hz⟩ := I.list hq
      simp only at hc hx
      subst hc hx
      obtain ⟨as, r4⟩ := Dp.readsAll I ps _ its hd rv
      have same_len : its.length = ps.length := SeqAt.ReadsAll.length ps its as r4
      have back : its.map (SeqAt.readOf s.heap) = ps := SeqAt.readsAll_map ps its as lay r4
      have vl := rv.length
      have sz := sizeLine_eq
      have jps : j < ps.length := (List.getElem?_eq_some_iff.mp at_j).1
      have jn : j < its.toArray.size := by simp; omega
      have reads : ∀ (m : Nat) (hm : m < its.toArray.size) (q' : PyData), ps[m]? = some q' → SeqAt.readOf s.heap its.toArray[m] = q' := fun m hm q' hq' => by
        have hm2 : m < its.length := by simpa using hm
        rw [← back, List.getElem?_map, List.getElem?_eq_getElem hm2] at hq'
        simpa using Option.some.inj hq'
      refine call_meets (PySem.F.slot_list_index) ⟨_, ho, rfl⟩ (PySem.F.entry_list_index) (PySem.F.args_list_index_2 _ _)
        (SeqAt.list_indexAt l its.toArray n kd ks u (fun z => PyData.eqv (SeqAt.readOf s.heap z) p) j jn (by omega) ?hit ?miss) ⟨ho, SeqAt.items_eqAt (vs := its.toArray) (show ReadsAll s.heap its.toArray.toList ps as from r4) rd lay (SeqAt.canLay_of_shaped sp) deep, ?last⟩
      case hit =>
        show PyData.eqv (SeqAt.readOf s.heap its.toArray[j]) p = true
        rw [reads j jn q at_j]
        exact same
      case miss =>
        intro m hm hmj
        have hmp : m < ps.length := by omega
        show PyData.eqv (SeqAt.readOf s.heap its.toArray[m]) p = false
        rw [reads m hm _ (List.getElem?_eq_getElem hmp)]
        exact before m _ hmj (List.getElem?_eq_getElem hmp)
      case last => exact ⟨.int (j : Nat), H, I.tok _, ⟨_, rfl⟩, fin⟩
end
end L2
namespace DL
open PySem PySem.Spec PyProof.Rows L2
def mIdxE (d : D) (ds : List D) (S : Sto) (Φ : KD) : Prop := ∃ y p ps j q, ds = [y] ∧ PyR S d (.list ps) ∧ PyR S y p ∧ SeqAt.shaped (.list ps) = true ∧ SeqAt.shaped p = true ∧ p.depth < 63 ∧ ps[j]? = some q ∧ PyData.eqv q p = true ∧ (∀ m q', m < j → ps[m]? = some q' → PyData.eqv q' p = false) ∧ Φ S (.int (j : Nat))
theorem mtd_idxE {K : PySem.W.Frag} : MtD K (rIndexE K) mIdxE := fun w S x vs d ds Φ Q g r1 r2 ⟨y, p, ps, j, q, ed, h1, h2, h3, h4, h5, h6, h7, h8, h⟩ k => by
  subst ed
  obtain ⟨v, rfl, rv⟩ := one_of r2
  have hd := dp_of g (.list ps) d x h1 r1
  cases hd with
  | lst hq ha => exact ⟨_, v, p, ps, j, q, rfl, rfl, .lst hq ha, dp_of g p y v h2 rv, h3, h4, h5, h6, h7, h8, k _ _ w S (Ext.refl w) g (.int _) h⟩
end DL
namespace L2
open PySem PySem.Spec PyProof.Rows
section
variable {X : Cx}
def gLsU (K : PySem.W.Frag) (n : Nat) (t : TGs) : TG := fun v σ H Q => ∃ l xs, v = .ref l ∧ SqL K H l xs ∧ xs.length = n ∧ t xs σ H Q
theorem pg_lsU {es : List Expr} {k : Nat} {pos : Pos} {t : TGs} {n : Nat} (hc : X.calm = true) (h : PGs X es t) (cnt : (assignEach es X.env).length = n := by rfl) (nostar : (assignEach es X.env).findIdx? (·.1) = none := by rfl) : PG X (.Tuple es k pos) (gLsU X.K n t) := ⟨fun pins s σ H v u Q I r ⟨l, xs, e1, hq, hl, q⟩ => by
  subst e1
  cases r
  obtain ⟨its, rv, pl, _⟩ := I.list hq
  have sz : its.toArray.size = n := by simp [← hl, rv.length]
  rw [PyProof.Rows.assign_Tuple]
  refine wpAny_bind (wpAny_standAt ?_)
  unfold unpack
  rw [cnt, nostar, ← sz]
  refine wpAny_bind (wpAny_holding (PySem.W.kun_itemsOf (I.ok.hd hc) pl.isList fun g hx => ?_))
  have J : Inv X pins σ H { s with heap := g } := I.kept (t' := s.toks) fun b o e => hx b o (Nat.ne_of_lt (Heap.lt_size e)) e
  exact h.run pins _ σ H xs _ Q J (by simpa using rv) q⟩
end
end L2
namespace DL
open PySem PySem.Spec PyProof.Rows L2
section
variable {X : Cx} {es : List Expr}
def lsG (n : Nat) (T : TGs') : TGd := fun d Γ S P => ∃ ds, asQ S d = some ds ∧ ds.length = n ∧ T ds Γ S P
theorem jg_lsU {n : Nat} {x1} {pos : Pos} {gs : TGs} {G : TGs'} (hc : X.calm = true) (h : JGs X es gs G) (cnt : (assignEach es X.env).length = n := by rfl) (nostar : (assignEach es X.env).findIdx? (·.1) = none := by rfl) : JG X (.Tuple es x1 pos) (gLsU X.K n gs) (lsG n G) :=
  ⟨pg_lsU hc h.pg cnt nostar, fun d Γ S v σ w P Q g sl r ⟨ds, e, hl, hT⟩ q => by
    obtain ⟨a, xs, rfl, hs, ra⟩ := asQ_at g r e
    exact ⟨_, _, rfl, hs, by rw [ra.length]; exact hl, h.sem ds Γ S _ σ w P Q g sl ra hT q⟩⟩
theorem lsG_e {n : Nat} {T : TGs'} {d : D} {Γ : Gam} {S : Sto} {P : Gam → Sto → Prop} : lsG n T d Γ S P = (∃ ds, asQ S d = some ds ∧ ds.length = n ∧ T ds Γ S P) := rfl
end
end DL
namespace DL
open PySem PySem.Spec PyProof.Rows L2
def top (i : Nat) : Stmt := PySem.Challenge.pw_runtabs_k44_few_cells_by_all_widths.main.body.getD i (.Pass ⟨0, 0, 0, 0⟩)
abbrev s_is_whole : Stmt := (top 13)
abbrev s_are_tabs : Stmt := (top 14)
abbrev s_is_sight : Stmt := (top 15)
abbrev s_are_sights : Stmt := (top 16)
abbrev s_contains : Stmt := (top 17)
abbrev s_count_marked : Stmt := (top 18)
abbrev s_Sights___init__ : Stmt := (inClass (top 19) 0)
abbrev s_Sights_least_widths : Stmt := (inClass (top 19) 4)
abbrev s_Sights_lesser_sight : Stmt := (inClass (top 19) 5)
abbrev s_Sights_conflict : Stmt := (inClass (top 19) 6)
abbrev s_Sights_agreed_widths : Stmt := (inClass (top 19) 8)
abbrev s_Sights_bounds : Stmt := (inClass (top 19) 9)
abbrev s_Sights_cell_range : Stmt := (inClass (top 19) 10)
abbrev s_Sights_ways : Stmt := (inClass (top 19) 11)
abbrev s_Sights_widest : Stmt := (inClass (top 19) 12)
abbrev s__law_churn : Stmt := (top 21)
abbrev s__law_dab : Stmt := (top 22)
abbrev s__law_marks : Stmt := (top 23)
abbrev s__law_cells : Stmt := (top 24)
abbrev s__law_looks : Stmt := (top 25)
abbrev s__law_inside : Stmt := (top 26)
abbrev s__law_few : Stmt := (top 27)
abbrev s__law_all : Stmt := (top 28)
abbrev s__law_told : Stmt := (top 29)
abbrev s__law_range : Stmt := (top 30)
abbrev s__law_right : Stmt := (top 31)
abbrev s_law : Stmt := (top 32)
def dd_is_whole : He5.DefA := ⟨(fun K => He.ga K "is_whole"), "is_whole", "is_whole", defArgs s_is_whole, defBody s_is_whole, defScope s_is_whole, [], []⟩
def dd_are_tabs : He5.DefA := ⟨(fun K => He.ga K "are_tabs"), "are_tabs", "are_tabs", defArgs s_are_tabs, defBody s_are_tabs, defScope s_are_tabs, [], []⟩
def dd_is_sight : He5.DefA := ⟨(fun K => He.ga K "is_sight"), "is_sight", "is_sight", defArgs s_is_sight, defBody s_is_sight, defScope s_is_sight, [], []⟩
def dd_are_sights : He5.DefA := ⟨(fun K => He.ga K "are_sights"), "are_sights", "are_sights", defArgs s_are_sights, defBody s_are_sights, defScope s_are_sights, [], []⟩
def dd_contains : He5.DefA := ⟨(fun K => He.ga K "contains"), "contains", "contains", defArgs s_contains, defBody s_contains, defScope s_contains, [], []⟩
def dd_count_marked : He5.DefA := ⟨(fun K => He.ga K "count_marked"), "count_marked", "count_marked", defArgs s_count_marked, defBody s_count_marked, defScope s_count_marked, [], []⟩
def dd_Sights___init__ : He5.DefA := ⟨(fun K => He.ma K (He.ga K "Sights") "__init__"), "__init__", "Sights.__init__", defArgs s_Sights___init__, defBody s_Sights___init__, defScope s_Sights___init__, [], []⟩
def dd_Sights_least_widths : He5.DefA := ⟨(fun K => He.ma K (He.ga K "Sights") "least_widths"), "least_widths", "Sights.least_widths", defArgs s_Sights_least_widths, defBody s_Sights_least_widths, defScope s_Sights_least_widths, [], []⟩
def dd_Sights_lesser_sight : He5.DefA := ⟨(fun K => He.ma K (He.ga K "Sights") "lesser_sight"), "lesser_sight", "Sights.lesser_sight", defArgs s_Sights_lesser_sight, defBody s_Sights_lesser_sight, defScope s_Sights_lesser_sight, [], []⟩
def dd_Sights_conflict : He5.DefA := ⟨(fun K => He.ma K (He.ga K "Sights") "conflict"), "conflict", "Sights.conflict", defArgs s_Sights_conflict, defBody s_Sights_conflict, defScope s_Sights_conflict, [], []⟩
def dd_Sights_agreed_widths : He5.DefA := ⟨(fun K => He.ma K (He.ga K "Sights") "agreed_widths"), "agreed_widths", "Sights.agreed_widths", defArgs s_Sights_agreed_widths, defBody s_Sights_agreed_widths, defScope s_Sights_agreed_widths, [], []⟩
def dd_Sights_bounds : He5.DefA := ⟨(fun K => He.ma K (He.ga K "Sights") "bounds"), "bounds", "Sights.bounds", defArgs s_Sights_bounds, defBody s_Sights_bounds, defScope s_Sights_bounds, [], []⟩
def dd_Sights_cell_range : He5.DefA := ⟨(fun K => He.ma K (He.ga K "Sights") "cell_range"), "cell_range", "Sights.cell_range", defArgs s_Sights_cell_range, defBody s_Sights_cell_range, defScope s_Sights_cell_range, [], []⟩
def dd_Sights_ways : He5.DefA := ⟨(fun K => He.ma K (He.ga K "Sights") "ways"), "ways", "Sights.ways", defArgs s_Sights_ways, defBody s_Sights_ways, defScope s_Sights_ways, [], []⟩
def dd_Sights_widest : He5.DefA := ⟨(fun K => He.ma K (He.ga K "Sights") "widest"), "widest", "Sights.widest", defArgs s_Sights_widest, defBody s_Sights_widest, defScope s_Sights_widest, [], []⟩
def dd__law_churn : He5.DefA := ⟨(fun K => He.ga K "_law_churn"), "_law_churn", "_law_churn", defArgs s__law_churn, defBody s__law_churn, defScope s__law_churn, [], []⟩
def dd__law_dab : He5.DefA := ⟨(fun K => He.ga K "_law_dab"), "_law_dab", "_law_dab", defArgs s__law_dab, defBody s__law_dab, defScope s__law_dab, [], []⟩
def dd__law_marks : He5.DefA := ⟨(fun K => He.ga K "_law_marks"), "_law_marks", "_law_marks", defArgs s__law_marks, defBody s__law_marks, defScope s__law_marks, [], []⟩
def dd__law_cells : He5.DefA := ⟨(fun K => He.ga K "_law_cells"), "_law_cells", "_law_cells", defArgs s__law_cells, defBody s__law_cells, defScope s__law_cells, [], []⟩
def dd__law_looks : He5.DefA := ⟨(fun K => He.ga K "_law_looks"), "_law_looks", "_law_looks", defArgs s__law_looks, defBody s__law_looks, defScope s__law_looks, [], []⟩
def dd__law_inside : He5.DefA := ⟨(fun K => He.ga K "_law_inside"), "_law_inside", "_law_inside", defArgs s__law_inside, defBody s__law_inside, defScope s__law_inside, [], []⟩
def dd__law_few : He5.DefA := ⟨(fun K => He.ga K "_law_few"), "_law_few", "_law_few", defArgs s__law_few, defBody s__law_few, defScope s__law_few, [], []⟩
def dd__law_all : He5.DefA := ⟨(fun K => He.ga K "_law_all"), "_law_all", "_law_all", defArgs s__law_all, defBody s__law_all, defScope s__law_all, [], []⟩
def dd__law_told : He5.DefA := ⟨(fun K => He.ga K "_law_told"), "_law_told", "_law_told", defArgs s__law_told, defBody s__law_told, defScope s__law_told, [], []⟩
def dd__law_range : He5.DefA := ⟨(fun K => He.ga K "_law_range"), "_law_range", "_law_range", defArgs s__law_range, defBody s__law_range, defScope s__law_range, [], []⟩
def dd__law_right : He5.DefA := ⟨(fun K => He.ga K "_law_right"), "_law_right", "_law_right", defArgs s__law_right, defBody s__law_right, defScope s__law_right, [], []⟩
def dd_law : He5.DefA := ⟨(fun K => He.ga K "law"), "law", "law", defArgs s_law, defBody s_law, defScope s_law, [], []⟩
abbrev s_NotPossible___init__ : Stmt := inClass (top 7) 0
theorem sc_NotPossible___init__ : FnScope (["self", "reason"] : List Str) (["self", "reason"] : List Str) (defScope s_NotPossible___init__) := ⟨rfl, rfl, rfl, by decide +kernel, rfl, by decide +kernel, by decide +kernel⟩
def dd_NotPossible___init__ : He5.DefA := ⟨(fun K => He.ma K (He.ga K "NotPossible") "__init__"), "__init__", "NotPossible.__init__", defArgs s_NotPossible___init__, defBody s_NotPossible___init__, defScope s_NotPossible___init__, [], []⟩
def fnL : List He5.DefA := (([dd_is_whole, dd_are_tabs, dd_is_sight, dd_are_sights, dd_contains, dd_count_marked, dd_Sights___init__, dd_Sights_least_widths, dd_Sights_lesser_sight, dd_Sights_conflict, dd_Sights_agreed_widths, dd_Sights_bounds, dd_Sights_cell_range, dd_Sights_ways, dd_Sights_widest, dd__law_churn, dd__law_dab, dd__law_marks, dd__law_cells, dd__law_looks] : List He5.DefA) ++ ([dd__law_inside, dd__law_few, dd__law_all, dd__law_told, dd__law_range, dd__law_right, dd_law, dd_NotPossible___init__] : List He5.DefA))
def faL : List FaX := (([(fun K => (He.Fa.glo "is_whole").ok K), (fun K => (He.Fa.glo "are_tabs").ok K), (fun K => (He.Fa.glo "is_sight").ok K), (fun K => (He.Fa.glo "are_sights").ok K), (fun K => (He.Fa.glo "contains").ok K), (fun K => (He.Fa.glo "count_marked").ok K), (fun K => (He.Fa.glo "_law_churn").ok K), (fun K => (He.Fa.glo "_law_dab").ok K), (fun K => (He.Fa.glo "_law_marks").ok K), (fun K => (He.Fa.glo "_law_cells").ok K), (fun K => (He.Fa.glo "_law_looks").ok K), (fun K => (He.Fa.glo "_law_inside").ok K), (fun K => (He.Fa.glo "_law_few").ok K), (fun K => (He.Fa.glo "_law_all").ok K), (fun K => (He.Fa.glo "_law_told").ok K), (fun K => (He.Fa.glo "_law_range").ok K), (fun K => (He.Fa.glo "_law_right").ok K), (fun K => (He.Fa.glo "law").ok K), (fun K => (He.Fa.glo "NotPossible").ok K), (fun K => (He.Fa.glo "PageError").ok K)] : List FaX) ++ ([(fun K => (He.Fa.meth "NotPossible" "__init__").ok K), (fun K => (He.Fa.noat "NotPossible" "reason").ok K), (bOex "NotPossible"), (bVeB "PageError"), (bXFld "NotPossible" "reason"), (fun K => (He.Fa.free "int").ok K), (fun K => (He.Fa.free "isinstance").ok K), (fun K => (He.Fa.free "bool").ok K), (fun K => (He.Fa.free "list").ok K), (fun K => (He.Fa.free "len").ok K), (fun K => (He.Fa.int "MOST_LINES" 60).ok K), (fun K => (He.Fa.int "MOST_TABS" 11).ok K), (fun K => (He.Fa.free "all").ok K), (fun K => (He.Fa.free "tuple").ok K), (fun K => (He.Fa.int "MOST_WIDTH" 1000000000000000000000000000000).ok K), (fun K => (He.Fa.int "MOST_SIGHTS" 40).ok K), (fun K => (He.Fa.free "range").ok K), (fun K => (He.Fa.free "sum").ok K), (fun K => (He.Fa.free "max").ok K), (fun K => (He.Fa.glo "InvalidTabs").ok K)] : List FaX) ++ ([(fun K => (He.Fa.exc "InvalidTabs").ok K), (fun K => (He.Fa.glo "InvalidSights").ok K), (fun K => (He.Fa.exc "InvalidSights").ok K), (fun K => (He.Fa.cls "Sights").ok K), (fun K => (He.Fa.noat "Sights" "held_tabs").ok K), (fun K => (He.Fa.noat "Sights" "held_sights").ok K), (fun K => (He.Fa.free "min").ok K), (fun K => (He.Fa.free "enumerate").ok K), (fun K => (He.Fa.meth "Sights" "least_widths").ok K), (fun K => (He.Fa.meth "Sights" "lesser_sight").ok K), (fun K => (He.Fa.meth "Sights" "conflict").ok K), (fun K => (He.Fa.meth "Sights" "agreed_widths").ok K), (fun K => (He.Fa.glo "InvalidLine").ok K), (fun K => (He.Fa.exc "InvalidLine").ok K), (fun K => (He.Fa.glo "InvalidColumn").ok K), (fun K => (He.Fa.exc "InvalidColumn").ok K), (fun K => (He.Fa.free "sorted").ok K), (fun K => (He.Fa.free "abs").ok K), (fun K => (He.Fa.meth "Sights" "bounds").ok K), (fun K => (He.Fa.meth "Sights" "ways").ok K)] : List FaX) ++ ([(fun K => (He.Fa.meth "Sights" "widest").ok K), (bExm "NotPossible" "NotPossible"), (fun K => (He.Fa.meth "Sights" "cell_range").ok K), (fun K => (He.Fa.mkr "Sights").ok K), (fun K => (He.Fa.glo "Sights").ok K), (fun K => (He.Fa.free "set").ok K), bModK, (fun K => (He.Fa.free "repr").ok K)] : List FaX))
abbrev RR : PySem.W.OpenRow := PySem.W.OpenLaw.row PySem.Challenge.rw_runtabs_k44_few_cells_by_all_widths
abbrev hkL : PySem.W.Hook := hookX1 7 faL fnL
def obL (s : PySem.W.SharedT) : He.AlD := obsXG1 7 faL fnL (HandSHeadRun.getT s)
theorem obL_eq (s : PySem.W.SharedT) : obL s = hkL.obs s.abs := obsXG1_eq (HandSHeadRun.getT_eq s)
def othersL : List Str := ((["_wall", "PageError", "InvalidTabs", "InvalidSights", "InvalidLine", "InvalidColumn", "NotPossible", "MOST_LINES", "MOST_TABS", "MOST_SIGHTS", "MOST_WIDTH", "is_whole", "are_tabs", "is_sight", "are_sights", "contains", "count_marked", "Sights", "_law_churn", "_law_dab"] : List Str) ++ (["_law_marks", "_law_cells", "_law_looks", "_law_inside", "_law_few", "_law_all", "_law_told", "_law_range", "_law_right"] : List Str))
theorem runL (w : World) : HandSHeadRun.RunEq RR (PySem.W.view RR.prog [32]) hkL obL 8000 othersL w := by
  intro os
  kernel_rfl
end DL
namespace DL
open PySem PySem.Spec PyProof.Rows L2
abbrev MOST : Int := 1000000000000000000000000000000
def inB (v lo hi : Int) : Bool := decide (lo ≤ v) && decide (v ≤ hi)
/-- a sight: column, first, last, width -/
structure Sg where
  c : Nat
  f : Nat
  l : Nat
  w : Int
abbrev sgD (s : Sg) : D := .tup [.int s.c, .int s.f, .int s.l, .int s.w]
abbrev natsD (t : List Nat) : D := .lst (t.map fun (n : Nat) => D.int (n : Int))
abbrev sgsD (ss : List Sg) : D := .lst (ss.map sgD)
structure TabsOk (t : List Nat) : Prop where
  lo : 1 ≤ t.length
  hi : t.length ≤ 60
  at_ : ∀ n ∈ t, n ≤ 11
structure SgOk (t : List Nat) (s : Sg) : Prop where
  c : s.c ≤ 10
  fl : s.f ≤ s.l
  l : s.l < t.length
  w0 : 0 ≤ s.w
  w1 : s.w ≤ MOST
  has : ∀ i, s.f ≤ i → i ≤ s.l → s.c < t.getD i 0
structure SgsOk (t : List Nat) (ss : List Sg) : Prop where
  hi : ss.length ≤ 40
  at_ : ∀ s ∈ ss, SgOk t s
def seeF (t : List Nat) (ss : List Sg) : List (Str × D) := [("held_tabs", natsD t), ("held_sights", sgsD ss)]
def sp_is_whole : DSpec := fun ds S Φ _ => ∃ v lo hi, ds = [.int v, .int lo, .int hi] ∧ Φ S (.bl (inB v lo hi))
def sp_are_tabs : DSpec := fun ds S Φ _ => ∃ d t, ds = [d] ∧ asL S d = some (t.map fun (n : Nat) => D.int (n : Int)) ∧ TabsOk t ∧ Φ S (.bl true)
def sp_is_sight : DSpec := fun ds S Φ _ => ∃ d t s, ds = [d, sgD s] ∧ asL S d = some (t.map fun (n : Nat) => D.int (n : Int)) ∧ SgOk t s ∧ t.length ≤ 60 ∧ Φ S (.bl true)
def sp_are_sights : DSpec := fun ds S Φ _ => ∃ d e t ss, ds = [d, e] ∧ asL S d = some (t.map fun (n : Nat) => D.int (n : Int)) ∧ t.length ≤ 60 ∧ asL S e = some (ss.map sgD) ∧ SgsOk t ss ∧ Φ S (.bl true)
def sp_Sights___init__ (C : Addr) : DSpec := fun ds S Φ _ => ∃ h d e t ss, ds = [.own h, d, e] ∧ S[h]? = some (.ins C []) ∧ asL S d = some (t.map fun (n : Nat) => D.int (n : Int)) ∧ TabsOk t ∧ asL S e = some (ss.map sgD) ∧ SgsOk t ss ∧ Φ (S.set h (.ins C (seeF t ss))) .non
def sp__law_churn : DSpec := fun ds S Φ _ => ∃ ns : List Int, ∃ k : Nat, ds = [.sq (ns.map D.int), .int k] ∧ k < 2 ^ 20 ∧ ∀ c, FdC 0 c → Φ (S ++ [c]) (.own S.length)
def sp__law_dab : DSpec := fun ds S Φ _ => ∃ h n m, ds = [.own h, .int m] ∧ FdAt S h n ∧ n < 2 ^ 100 ∧ 0 < m ∧ m < 2 ^ 200 ∧ ∀ S' v, Fs h (n + 1) S S' → 0 ≤ v → v < m → Φ S' (.int v)
def sp__law_marks : DSpec := fun ds S Φ _ => ∃ h n, ∃ a b : Nat, ds = [.own h, .int a, .int b] ∧ FdAt S h n ∧ n < 2 ^ 90 ∧ 0 < a ∧ a ≤ 60 ∧ b ≤ 11 ∧ ∀ S' (t : List Nat), Fs h (n + 10000) S S' → 1 ≤ t.length → t.length ≤ a → (∀ x ∈ t, x ≤ b) → Φ S' (natsD t)
/-- widths of the cells with tabs -/
structure CellsOk (t : List Nat) (W : Int) (cs : List (List Int)) : Prop where
  len : cs.length = t.length
  row : ∀ i, (cs.getD i []).length = t.getD i 0
  at_ : ∀ r ∈ cs, ∀ x ∈ r, 0 ≤ x ∧ x < W
def sp__law_cells : DSpec := fun ds S Φ _ => ∃ h n, ∃ t : List Nat, ∃ W : Int, ds = [.own h, natsD t, .int W] ∧ FdAt S h n ∧ n < 2 ^ 90 ∧ t.length ≤ 60 ∧ (∀ x ∈ t, x ≤ 11) ∧ 0 < W ∧ W ≤ MOST + 1 ∧ ∀ S' (cs : List (List Int)), Fs h (n + 100000) S S' → CellsOk t W cs → Φ S' (.lst (cs.map fun r => .lst (r.map D.int)))
/-- a sight of the cells: its width is the greatest of them -/
def SeenOk (cs : List (List Int)) (s : Sg) : Prop := (∃ j, s.f ≤ j ∧ j ≤ s.l ∧ (cs.getD j []).getD s.c 0 = s.w) ∧ ∀ j, s.f ≤ j → j ≤ s.l → (cs.getD j []).getD s.c 0 ≤ s.w
def sp__law_looks : DSpec := fun ds S Φ _ => ∃ h n, ∃ t : List Nat, ∃ cs : List (List Int), ∃ W : Int, ∃ m : Nat, ∃ b : Bool, ds = [.own h, natsD t, .lst (cs.map fun r => .lst (r.map D.int)), .int m, .bl b] ∧ FdAt S h n ∧ n < 2 ^ 90 ∧ t.length ≤ 60 ∧ (∀ x ∈ t, x ≤ 11) ∧ CellsOk t W cs ∧ W ≤ MOST + (if b then 0 else 1) ∧ m ≤ 40 ∧
  ∀ S' (ss : List Sg), Fs h (n + 1000000) S S' → ss.length ≤ m → (∀ s ∈ ss, SgOk t s) → (b = false → ∀ s ∈ ss, SeenOk cs s) → Φ S' (sgsD ss)
/-- whether a sight contains a cell -/
def hasB (s : Sg) (i c : Int) : Bool := decide ((s.c : Int) = c) && (decide ((s.f : Int) ≤ i) && decide (i ≤ (s.l : Int)))
def sp_contains : DSpec := fun ds S Φ _ => ∃ s i c, ds = [sgD s, .int i, .int c] ∧ Φ S (.bl (hasB s i c))
/-- the least width of the sights that contain a cell -/
def bestS (i c : Nat) (o : Option Int) (s : Sg) : Option Int := if hasB s i c then (match o with | none => some s.w | some v => some (if v < s.w then v else s.w)) else o
def bestF (ss : List Sg) (i c : Nat) : Option Int := ss.foldl (bestS i c) none
def optD (o : Option Int) : D := match o with | none => .non | some v => .int v
def rowF (ss : List Sg) (n i : Nat) : List D := (List.range n).map fun c => optD (bestF ss i c)
def rowsF (t : List Nat) (ss : List Sg) : List (List D) := (List.range t.length).map fun i => rowF ss (t.getD i 0) i
def ownsN (a n : Nat) : List D := (List.range n).map fun i => .own (a + i)
def sp_Sights_least_widths (C : Addr) : DSpec := fun ds S Φ _ => ∃ d t ss, ds = [d] ∧ asI S d = some (C, seeF t ss) ∧ TabsOk t ∧ SgsOk t ss ∧ Φ (S ++ (rowsF t ss).map Cell.lst ++ [.lst (ownsN S.length t.length)]) (.own (S.length + t.length))
/-- the least index of a lesser sight of a cell -/
def lessF (ss : List Sg) (i c : Nat) (w : Int) : Option Nat := ss.findIdx? fun s => hasB s i c && decide (s.w < w)
def sp_Sights_lesser_sight (C : Addr) : DSpec := fun ds S Φ _ => ∃ d t ss, ∃ i c : Nat, ∃ w, ds = [d, .int i, .int c, .int w] ∧ asI S d = some (C, seeF t ss) ∧ ss.length ≤ 40 ∧ Φ S (match lessF ss i c w with | some k => .int (k : Nat) | none => .non)
/-- all cells of a sight are in lesser ones -/
def badB (ss : List Sg) (s : Sg) : Bool := (List.range (s.l + 1 - s.f)).all fun j => match bestF ss (s.f + j) s.c with | some v => decide (v < s.w) | none => false
def conflD (ss : List Sg) : D := match ss.findIdx? (badB ss) with
  | some k => .tup [.int (k : Nat), .lst ((List.range ((ss.getD k ⟨0, 0, 0, 0⟩).l + 1 - (ss.getD k ⟨0, 0, 0, 0⟩).f)).map fun j => .int (((lessF ss ((ss.getD k ⟨0, 0, 0, 0⟩).f + j) (ss.getD k ⟨0, 0, 0, 0⟩).c (ss.getD k ⟨0, 0, 0, 0⟩).w).getD 0 : Nat) : Int))]
  | none => .non
def sp_Sights_conflict (C : Addr) : DSpec := fun ds S Φ _ => ∃ d t ss, ds = [d] ∧ asI S d = some (C, seeF t ss) ∧ TabsOk t ∧ SgsOk t ss ∧ Φ S (conflD ss)
def sp__law_inside : DSpec := fun ds S Φ _ => ∃ s i c, ds = [sgD s, .int i, .int c] ∧ Φ S (.bl (hasB s i c))
def whyX (CN : Addr) (ss : List Sg) : Exn := ⟨CN, [("reason", conflD ss)]⟩
def sp_Sights_agreed_widths (C CN : Addr) : DSpec := fun ds S Φ Ψ => ∃ d t ss, ds = [d] ∧ asI S d = some (C, seeF t ss) ∧ TabsOk t ∧ SgsOk t ss ∧ (conflD ss = .non → Φ (S ++ (rowsF t ss).map Cell.lst ++ [.lst (ownsN S.length t.length)]) (.own (S.length + t.length))) ∧ (conflD ss ≠ .non → Ψ S (whyX CN ss))
def sp_Sights_bounds (C CN : Addr) : DSpec := sp_Sights_agreed_widths C CN
/-- the greatest widths, 0 for cells in no sight -/
def row0F (ss : List Sg) (n i : Nat) : List D := (List.range n).map fun c => .int ((bestF ss i c).getD 0)
def rows0F (t : List Nat) (ss : List Sg) : List (List D) := (List.range t.length).map fun i => row0F ss (t.getD i 0) i
def sp_Sights_widest (C CN : Addr) : DSpec := fun ds S Φ Ψ => ∃ d t ss, ds = [d] ∧ asI S d = some (C, seeF t ss) ∧ TabsOk t ∧ SgsOk t ss ∧ (conflD ss = .non → ∀ G : Sto, G.length = t.length + 1 → Φ (S ++ G ++ (rows0F t ss).map Cell.lst ++ [.lst (ownsN (S.length + (t.length + 1)) t.length)]) (.own (S.length + (t.length + 1) + t.length))) ∧ (conflD ss ≠ .non → Ψ S (whyX CN ss))
/-- how many cells of a sight have a bound -/
def shareN (ss : List Sg) (s : Sg) (b : Int) : Nat := (List.range (s.l + 1 - s.f)).countP fun j => bestF ss (s.f + j) s.c == some b
/-- a sight of this width, in which no other cell has it -/
def soleB (ss : List Sg) (i c : Nat) (b : Int) : Bool := ss.any fun s => hasB s i c && (decide (s.w = b) && decide (shareN ss s b = 1))
def rangeD (ss : List Sg) (i c : Nat) : D := match bestF ss i c with
  | none => .non
  | some b => if soleB ss i c b then .tup [.int b, .int b] else .tup [.int 0, .int b]
def sp_Sights_cell_range (C CIL CIC CN : Addr) : DSpec := fun ds S Φ Ψ => ∃ d t ss, ∃ i c : Int, ds = [d, .int i, .int c] ∧ asI S d = some (C, seeF t ss) ∧ TabsOk t ∧ SgsOk t ss ∧
  (inB i 0 ((t.length : Int) - 1) = false → Ψ S ⟨CIL, []⟩) ∧ (inB i 0 ((t.length : Int) - 1) = true → inB c 0 ((t.getD i.toNat 0 : Nat) - 1) = false → Ψ S ⟨CIC, []⟩) ∧
  (inB i 0 ((t.length : Int) - 1) = true → inB c 0 ((t.getD i.toNat 0 : Nat) - 1) = true → (conflD ss = .non → Φ S (rangeD ss i.toNat c.toNat)) ∧ (conflD ss ≠ .non → Ψ S (whyX CN ss)))
/-- the counts by the last cell with the width -/
def needF (sp : List (Nat × Nat)) (cell : Nat) : Int := ((sp.filter fun p => decide (p.2 = cell)).map fun p => (p.1 : Int)).foldl max (-1)
def laterC (w : Int) (ks : List (Int × Int)) (cell : Nat) : List (Int × Int) := (ks.map fun p => (p.1, p.2 * w)) ++ [((cell : Int), (ks.map (·.2)).sum)]
def stepC (sp : List (Nat × Nat)) (w : Int) (ks : List (Int × Int)) (cell : Nat) : List (Int × Int) := (laterC w ks cell).filter fun p => decide (needF sp cell ≤ p.1)
def cmL (sp : List (Nat × Nat)) (w : Int) : Nat → List (Int × Int)
  | 0 => [(-1, 1)]
  | n + 1 => stepC sp w (cmL sp w n) n
def cmF (n : Nat) (sp : List (Nat × Nat)) (w : Int) : Int := ((cmL sp w n).map (·.2)).sum
abbrev spD (p : Nat × Nat) : D := .tup [.int p.1, .int p.2]
def sp_count_marked : DSpec := fun ds S Φ _ => ∃ d, ∃ n : Nat, ∃ sp : List (Nat × Nat), ∃ w : Int, ds = [.int n, d, .int w] ∧ n ≤ 60 ∧ 0 ≤ w ∧ w ≤ MOST ∧ sp.length ≤ 40 ∧ asL S d = some (sp.map spD) ∧ Φ S (.int (cmF n sp w))
def linesF (t : List Nat) (ss : List Sg) (c : Nat) (w : Int) : List Nat := (List.range t.length).filter fun i => decide (c < t.getD i 0) && (bestF ss i c == some w)
def spotsF (ls : List Nat) (s : Sg) : List Nat := (List.range ls.length).filter fun k => decide (s.f ≤ ls.getD k 0) && decide (ls.getD k 0 ≤ s.l)
def spanF (ls : List Nat) (s : Sg) : Nat × Nat := ((spotsF ls s).headD 0, (spotsF ls s).getLastD 0)
def spansF (ss : List Sg) (ls : List Nat) (c : Nat) (w : Int) : List (Nat × Nat) := (ss.filter fun s => decide (s.c = c) && decide (s.w = w)).map (spanF ls)
def ways1 (t : List Nat) (ss : List Sg) (q : Int × Int) : Int := cmF (linesF t ss q.1.toNat q.2).length (spansF ss (linesF t ss q.1.toNat q.2) q.1.toNat q.2) q.2
def waysF (t : List Nat) (ss : List Sg) (qs : List (Int × Int)) : Int := qs.foldl (fun m q => m * ways1 t ss q) 1
def sp_Sights_ways (C CN : Addr) : DSpec := fun ds S Φ Ψ => ∃ d t ss, ds = [d] ∧ asI S d = some (C, seeF t ss) ∧ TabsOk t ∧ SgsOk t ss ∧ (conflD ss = .non → ∀ qs : List (Int × Int), (∀ p, p ∈ qs ↔ p ∈ ss.map fun s => ((s.c : Int), s.w)) → qs.Pairwise ltP → Φ S (.int (waysF t ss qs))) ∧ (conflD ss ≠ .non → Ψ S (whyX CN ss))
/-- rows of widths, as the law makes them -/
def rowsN (m : Nat) : Nat → List (List Nat)
  | 0 => [[]]
  | n + 1 => (rowsN m n).flatMap fun r => (List.range (m + 1)).map fun v => r ++ [v]
/-- the values of a row at the cells of a sight -/
def inRow (s : Sg) (X : List (Nat × Nat)) (r : List Nat) : List Nat := ((X.zip r).filter fun p => hasB s p.1.1 p.1.2).map (·.2)
/-- the greatest value in a sight is its width -/
def fineB (X : List (Nat × Nat)) (ss : List Sg) (r : List Nat) : Bool := ss.all fun s => (inRow s X r).any (fun v => decide ((v : Int) = s.w)) && (inRow s X r).all fun v => decide ((v : Int) ≤ s.w)
def mostW (ss : List Sg) : Nat := (ss.map fun s => s.w.toNat).foldl max 0
def everyF (X : List (Nat × Nat)) (ss : List Sg) : List (List Nat) := (rowsN (mostW ss) X.length).filter (fineB X ss)
/-- the cells of some sights -/
structure Spots (X : List (Nat × Nat)) (ss : List Sg) : Prop where
  nd : X.Nodup
  hi : X.length ≤ 5
  mem : ∀ x, x ∈ X ↔ ∃ s ∈ ss, hasB s x.1 x.2 = true
def sp__law_few : DSpec := fun ds S Φ _ => ∃ (t : List Nat) (ss : List Sg), ds = [sgsD ss, .int 5] ∧ t.length ≤ 4 ∧ ss.length ≤ 8 ∧ (∀ s ∈ ss, SgOk t s) ∧ ∀ (us : List Sg) (X : List (Nat × Nat)), us.length ≤ 8 → (∀ s ∈ us, s ∈ ss) → Spots X us → Φ S (.lst [sgsD us, .lst (X.map spD)])
def sp__law_all : DSpec := fun ds S Φ _ => ∃ (X : List (Nat × Nat)) (ss : List Sg), ds = [.lst (X.map spD), sgsD ss] ∧ ss.length ≤ 8 ∧ (∀ s ∈ ss, 0 ≤ s.w ∧ s.w ≤ 3 ∧ s.f ≤ s.l) ∧ Spots X ss ∧ Φ S (.lst ((everyF X ss).map natsD))
def sp__law_told (C : Addr) : DSpec := fun ds S Φ _ => ∃ d t ss, ∃ k : Nat, ds = [d, .int k] ∧ asI S d = some (C, seeF t ss) ∧ TabsOk t ∧ SgsOk t ss ∧ conflD ss ≠ .non ∧ Φ S (.tup [.str "reason", conflD ss])
def sp__law_range (C : Addr) : DSpec := fun ds S Φ _ => ∃ d t ss, ∃ i c : Nat, ds = [d, .int i, .int c] ∧ asI S d = some (C, seeF t ss) ∧ TabsOk t ∧ SgsOk t ss ∧ i < t.length ∧ c < t.getD i 0 ∧ conflD ss ≠ .non ∧ Φ S (.tup [.str "reason", conflD ss])
def sp__law_right : DSpec := fun ds S Φ _ => ∃ t ss X, ds = [natsD t, sgsD ss, .lst (X.map spD)] ∧ TabsOk t ∧ SgsOk t ss ∧ ss.length ≤ 8 ∧ (∀ s ∈ ss, s.w ≤ 3) ∧ Spots X ss ∧ Φ S (.bl true)
def sp_law : DSpec := fun ds S Φ _ => ∃ ns : List Int, ds = [.sq (ns.map D.int)] ∧ ∀ S, Φ S (.bl true)
abbrev N_is_whole : List Str := ["thing", "least", "most"]
abbrev P_is_whole : List Str := ["thing", "least", "most"]
abbrev N_are_tabs : List Str := ["thing", "number"]
abbrev P_are_tabs : List Str := ["thing"]
abbrev N_is_sight : List Str := ["tabs", "thing", "column", "first", "last", "width", "number"]
abbrev P_is_sight : List Str := ["tabs", "thing"]
abbrev N_are_sights : List Str := ["tabs", "thing", "sight"]
abbrev P_are_sights : List Str := ["tabs", "thing"]
abbrev N_contains : List Str := ["sight", "line", "column"]
abbrev P_contains : List Str := ["sight", "line", "column"]
abbrev N_count_marked : List Str := ["many", "spans", "width", "ways", "cell", "later", "needed", "last", "number", "first", "end"]
abbrev P_count_marked : List Str := ["many", "spans", "width"]
abbrev N_Sights___init__ : List Str := ["self", "tabs", "sights"]
abbrev P_Sights___init__ : List Str := ["self", "tabs", "sights"]
abbrev N_Sights_least_widths : List Str := ["self", "found", "column", "first", "last", "width", "row", "number"]
abbrev P_Sights_least_widths : List Str := ["self"]
abbrev N_Sights_lesser_sight : List Str := ["self", "line", "column", "width", "index", "sight"]
abbrev P_Sights_lesser_sight : List Str := ["self", "line", "column", "width"]
abbrev N_Sights_conflict : List Str := ["self", "found", "index", "column", "first", "last", "width", "row", "line"]
abbrev P_Sights_conflict : List Str := ["self"]
abbrev N_Sights_agreed_widths : List Str := ["self", "reason"]
abbrev P_Sights_agreed_widths : List Str := ["self"]
abbrev N_Sights_bounds : List Str := ["self"]
abbrev P_Sights_bounds : List Str := ["self"]
abbrev N_Sights_cell_range : List Str := ["self", "line", "column", "found", "bound", "sight", "row"]
abbrev P_Sights_cell_range : List Str := ["self", "line", "column"]
abbrev N_Sights_ways : List Str := ["self", "found", "many", "column", "width", "lines", "spans", "other", "first", "last", "seen", "spots", "sight", "line", "row", "spot"]
abbrev P_Sights_ways : List Str := ["self"]
abbrev N_Sights_widest : List Str := ["self", "row", "bound"]
abbrev P_Sights_widest : List Str := ["self"]
abbrev N__law_churn : List Str := ["_law_script", "_law_k", "_law_cell"]
abbrev P__law_churn : List Str := ["_law_script", "_law_k"]
abbrev N__law_dab : List Str := ["_law_churn_here", "_law_size", "_law_digit", "_law_mixed"]
abbrev P__law_dab : List Str := ["_law_churn_here", "_law_size"]
abbrev N__law_marks : List Str := ["_law_churn_here", "_law_most", "_law_high", "_law_way", "_law_found", "_law_last", "_law_turn", "_law_any_one", "_law_near"]
abbrev P__law_marks : List Str := ["_law_churn_here", "_law_most", "_law_high"]
abbrev N__law_cells : List Str := ["_law_churn_here", "_law_marks_here", "_law_wide", "_law_found", "_law_number", "_law_row", "_law_place"]
abbrev P__law_cells : List Str := ["_law_churn_here", "_law_marks_here", "_law_wide"]
abbrev N__law_looks : List Str := ["_law_churn_here", "_law_marks_here", "_law_cells_here", "_law_many", "_law_bend", "_law_spots", "_law_found", "_law_turn", "_law_low", "_law_place", "_law_high", "_law_step", "_law_seen", "_law_at", "_law_number", "_law_row"]
abbrev P__law_looks : List Str := ["_law_churn_here", "_law_marks_here", "_law_cells_here", "_law_many", "_law_bend"]
abbrev N__law_inside : List Str := ["_law_look", "_law_at", "_law_place"]
abbrev P__law_inside : List Str := ["_law_look", "_law_at", "_law_place"]
abbrev N__law_few : List Str := ["_law_looks_here", "_law_most", "_law_found", "_law_spots", "_law_look", "_law_more", "_law_at"]
abbrev P__law_few : List Str := ["_law_looks_here", "_law_most"]
abbrev N__law_all : List Str := ["_law_spots", "_law_looks_here", "_law_most", "_law_rows", "_law_place", "_law_longer", "_law_row", "_law_found", "_law_fine", "_law_some", "_law_look", "_law_width_here", "_law_k"]
abbrev P__law_all : List Str := ["_law_spots", "_law_looks_here"]
abbrev N__law_told : List Str := ["_law_one", "_law_way", "e"]
abbrev P__law_told : List Str := ["_law_one", "_law_way"]
abbrev N__law_range : List Str := ["_law_one", "_law_at", "_law_place", "e"]
abbrev P__law_range : List Str := ["_law_one", "_law_at", "_law_place"]
abbrev N__law_right : List Str := ["_law_marks_here", "_law_looks_here", "_law_spots", "_law_one", "_law_every", "_law_reason", "_law_found", "_law_great", "_law_at", "_law_place", "_law_due", "_law_some", "_law_way", "_law_number", "_law_row"]
abbrev P__law_right : List Str := ["_law_marks_here", "_law_looks_here", "_law_spots"]
abbrev N_law : List Str := ["_law_script", "_law_k", "_law_churn_here", "_law_turn", "_law_marks_here", "_law_cells_here", "_law_looks_here", "_law_spots", "_law_look"]
abbrev P_law : List Str := ["_law_script"]
def T_is_whole : TSd :=
  (sRet (dAnd (dCB cIsi (lCons (dVar 0) (lCons (dC (.ty "int")) lNil))) (dAnd (dNot (dCB cIsi (lCons (dVar 0) (lCons (dC (.ty "bool")) lNil)))) (dChain dLe dLe (dVar 1) (dVar 0) (dVar 2)))))
def T_are_tabs : TSd :=
  (sSeq (sIf (bOr (bNot (bOf (dCB cIsi (lCons (dVar 0) (lCons (dC (.ty "list")) lNil))))) (bNot (bOf (dChain dLe dLe (dC (.int 1)) (dCB cLen (lCons (dVar 0) lNil)) (dC (.int 60))))))
  (sRet (dC (.bl false)))
  sNext)
  (sRet (dCB cAll (lCons (dLc (iSeq (dVar 0)) (nmG 1) bYes (dCall sp_is_whole (lCons (dVar 1) (lCons (dC (.int 0)) (lCons (dC (.int 11)) lNil)))) [1] finF) lNil))))
def T_is_sight : TSd :=
  (sSeq (sIf (bOr (bNot (bOf (dCB cIsi (lCons (dVar 1) (lCons (dC (.ty "tuple")) lNil))))) (bOf (dOp dNe (dCB cLen (lCons (dVar 1) lNil)) (dC (.int 4)))))
  (sRet (dC (.bl false)))
  sNext)
  (sSeq (sAsg (dVar 1) (tupG 4 (gsCons (nmG 2) (gsCons (nmG 3) (gsCons (nmG 4) (gsCons (nmG 5) gsNil))))))
  (sSeq (sIf (bOr (bNot (bOf (dCall sp_is_whole (lCons (dVar 2) (lCons (dC (.int 0)) (lCons (dOp dSub (dC (.int 11)) (dC (.int 1))) lNil)))))) (bNot (bOf (dCall sp_is_whole (lCons (dVar 5) (lCons (dC (.int 0)) (lCons (dC (.int 1000000000000000000000000000000)) lNil)))))))
  (sRet (dC (.bl false)))
  sNext)
  (sSeq (sIf (bOr (bNot (bOf (dCall sp_is_whole (lCons (dVar 3) (lCons (dC (.int 0)) (lCons (dOp dSub (dCB cLen (lCons (dVar 0) lNil)) (dC (.int 1))) lNil)))))) (bNot (bOf (dCall sp_is_whole (lCons (dVar 4) (lCons (dVar 3) (lCons (dOp dSub (dCB cLen (lCons (dVar 0) lNil)) (dC (.int 1))) lNil)))))))
  (sRet (dC (.bl false)))
  sNext)
  (sRet (dCB cAll (lCons (dLc (iSeq (dSl dSlL (dVar 0) (oSome (dVar 3)) (oSome (dOp dAdd (dVar 4) (dC (.int 1)))))) (nmG 6) bYes (dOp dGt (dVar 6) (dVar 2)) [6] finF) lNil)))))))
def T_are_sights : TSd :=
  (sSeq (sIf (bOr (bNot (bOf (dCB cIsi (lCons (dVar 1) (lCons (dC (.ty "list")) lNil))))) (bOf (dOp dGt (dCB cLen (lCons (dVar 1) lNil)) (dC (.int 40)))))
  (sRet (dC (.bl false)))
  sNext)
  (sRet (dCB cAll (lCons (dLc (iSeq (dVar 1)) (nmG 2) bYes (dCall sp_is_sight (lCons (dVar 0) (lCons (dVar 2) lNil))) [2] finF) lNil))))
def T_contains : TSd :=
  (sRet (dAnd (dOp dEqF (dOp dIx (dVar 0) (dC (.int 0))) (dVar 2)) (dChain dLe dLe (dOp dIx (dVar 0) (dC (.int 1))) (dVar 1) (dOp dIx (dVar 0) (dC (.int 2))))))
def T_count_marked : TSd :=
  (sSeq (sAsg (dDis1 (dUn uNeg (dC (.int 1))) (dC (.int 1))) (nmG 3))
  (sSeq (sFor (iRg1 (lCons (dVar 0) lNil)) (nmG 4)
  (sSeq (sLck 3 (sAsg (dDc (iItD 3) (tupG 2 (gsCons (nmG 7) (gsCons (nmG 8) gsNil))) bYes (dVar 7) (dOp dMul (dVar 8) (dVar 2)) [7, 8]) (nmG 5)))
  (sSeq (sDkp (dCB cSum (lCons (dLVals (dVar 3)) lNil)) (dVar 5) (dVar 4))
  (sSeq (sAsg (dCB cMax (lCons (dOp dAdd (dLc (iSeq (dVar 1)) (tupG 2 (gsCons (nmG 9) (gsCons (nmG 10) gsNil))) (bOf (dOp dEqF (dVar 10) (dVar 4))) (dVar 9) [9, 10] finF) (dLst (lCons (dUn uNeg (dC (.int 1))) lNil))) lNil)) (nmG 6))
  (sLck 5 (sAsg (dDc (iItD 5) (tupG 2 (gsCons (nmG 7) (gsCons (nmG 8) gsNil))) (bOf (dOp dGe (dVar 7) (dVar 6))) (dVar 7) (dVar 8) [7, 8]) (nmG 3)))))))
  (sRet (dCB cSum (lCons (dLVals (dVar 3)) lNil)))))
def T_Sights___init__ (C_InvalidTabs C_InvalidSights C_Sights : Addr) : TSd :=
  (sSeq (sIf (bNot (bOf (dCall sp_are_tabs (lCons (dVar 1) lNil))))
  (sRaise C_InvalidTabs)
  sNext)
  (sSeq (sIf (bNot (bOf (dCall sp_are_sights (lCons (dVar 1) (lCons (dVar 2) lNil)))))
  (sRaise C_InvalidSights)
  sNext)
  (sSeq (sFldS C_Sights "held_tabs" (dVar 0) (dCB cList (lCons (dVar 1) lNil)))
  (sFldS C_Sights "held_sights" (dVar 0) (dCB cList (lCons (dVar 2) lNil))))))
def T_Sights_least_widths (C_Sights : Addr) : TSd :=
  (sSeq (sAsg (dLc (iSeq (dFld C_Sights "held_tabs" (dVar 0))) (nmG 7) bYes (dOp dMulO (dLst (lCons (dC .non) lNil)) (dVar 7)) [7] finO) (nmG 1))
  (sSeq (sFor (iSeq (dFld C_Sights "held_sights" (dVar 0))) (tupG 4 (gsCons (nmG 2) (gsCons (nmG 3) (gsCons (nmG 4) (gsCons (nmG 5) gsNil)))))
  (sFor (iSeq (dSl dSlL (dVar 1) (oSome (dVar 3)) (oSome (dOp dAdd (dVar 4) (dC (.int 1)))))) (nmG 6)
  (sAsg (dJ (dIf (bOf (dOp dIsN (dOp dIx (dVar 6) (dVar 2)) (dC .non))) (dVar 5) (dCB cMin2 (lCons (dVar 5) (lCons (dOp dIx (dVar 6) (dVar 2)) lNil))))) (subG dSetO (dVar 6) (dVar 2)))))
  (sRet (dVar 1))))
def T_Sights_lesser_sight (C_Sights : Addr) : TSd :=
  (sSeq (sFor (iEnumD (lCons (dFld C_Sights "held_sights" (dVar 0)) lNil)) (tupG 2 (gsCons (nmG 4) (gsCons (nmG 5) gsNil)))
  (sIf (bAnd (bOf (dCall sp_contains (lCons (dVar 5) (lCons (dVar 1) (lCons (dVar 2) lNil))))) (bOf (dOp dLt (dOp dIx (dVar 5) (dC (.int 3))) (dVar 3))))
  (sRet (dVar 4))
  sNext))
  (sRet (dC .non)))
def T_Sights_conflict (C_Sights : Addr) : TSd :=
  (sSeq (sAsg (dMethA C_Sights "least_widths" (pkP 1 [0] [] (sp_Sights_least_widths C_Sights)) (dVar 0) (d2 lNil lNil 0)) (nmG 1))
  (sSeq (sFor (iEnumD (lCons (dFld C_Sights "held_sights" (dVar 0)) lNil)) (tupG 2 (gsCons (nmG 2) (gsCons (tupG 4 (gsCons (nmG 3) (gsCons (nmG 4) (gsCons (nmG 5) (gsCons (nmG 6) gsNil))))) gsNil)))
  (sIf (bOf (dOp dLt (dCB cMax (lCons (dLc (iSeq (dSl dSlL (dVar 1) (oSome (dVar 4)) (oSome (dOp dAdd (dVar 5) (dC (.int 1)))))) (nmG 7) bYes (dOp dIx (dVar 7) (dVar 3)) [7] finF) lNil)) (dVar 6)))
  (sRet (dTup (lCons (dVar 2) (lCons (dLc (iRg2 (lCons (dVar 4) (lCons (dOp dAdd (dVar 5) (dC (.int 1))) lNil))) (nmG 8) bYes (dMethA C_Sights "lesser_sight" (pkP 4 [0, 1, 2, 3] [] (sp_Sights_lesser_sight C_Sights)) (dVar 0) (d2 (lCons (dVar 8) (lCons (dVar 3) (lCons (dVar 6) lNil))) lNil 0)) [8] finF) lNil))))
  sNext))
  (sRet (dC .non))))
def T_Sights_agreed_widths (C_Sights C_NotPossible : Addr) : TSd :=
  (sSeq (sAsg (dMethA C_Sights "conflict" (pkP 1 [0] [] (sp_Sights_conflict C_Sights)) (dVar 0) (d2 lNil lNil 0)) (nmG 1))
  (sSeq (sIf (bOf (dOp dNotN (dVar 1) (dC .non)))
  (sRaiseI C_NotPossible "reason" (dVar 1))
  sNext)
  (sRet (dMethA C_Sights "least_widths" (pkP 1 [0] [] (sp_Sights_least_widths C_Sights)) (dVar 0) (d2 lNil lNil 0)))))
def T_Sights_bounds (C_Sights C_NotPossible : Addr) : TSd :=
  (sRet (dMethA C_Sights "agreed_widths" (pkP 1 [0] [] (sp_Sights_agreed_widths C_Sights C_NotPossible)) (dVar 0) (d2 lNil lNil 0)))
def T_Sights_cell_range (C_Sights C_InvalidLine C_InvalidColumn C_NotPossible : Addr) : TSd :=
  (sSeq (sIf (bNot (bOf (dCall sp_is_whole (lCons (dVar 1) (lCons (dC (.int 0)) (lCons (dOp dSub (dCB cLen (lCons (dFld C_Sights "held_tabs" (dVar 0)) lNil)) (dC (.int 1))) lNil))))))
  (sRaise C_InvalidLine)
  sNext)
  (sSeq (sIf (bNot (bOf (dCall sp_is_whole (lCons (dVar 2) (lCons (dC (.int 0)) (lCons (dOp dSub (dOp dIx (dFld C_Sights "held_tabs" (dVar 0)) (dVar 1)) (dC (.int 1))) lNil))))))
  (sRaise C_InvalidColumn)
  sNext)
  (sSeq (sAsg (dMethA C_Sights "agreed_widths" (pkP 1 [0] [] (sp_Sights_agreed_widths C_Sights C_NotPossible)) (dVar 0) (d2 lNil lNil 0)) (nmG 3))
  (sSeq (sAsg (dOp dIx (dOp dIx (dVar 3) (dVar 1)) (dVar 2)) (nmG 4))
  (sSeq (sIf (bOf (dOp dIsN (dVar 4) (dC .non)))
  (sRet (dC .non))
  sNext)
  (sSeq (sFor (iSeq (dFld C_Sights "held_sights" (dVar 0))) (nmG 5)
  (sJ (sIf (bAnd (bOf (dCall sp_contains (lCons (dVar 5) (lCons (dVar 1) (lCons (dVar 2) lNil))))) (bOf (dOp dEqF (dOp dIx (dVar 5) (dC (.int 3))) (dVar 4))))
  (sIf (bOf (dOp dEqF (dBM mCnt (dLc (iSeq (dSl dSlL (dVar 3) (oSome (dOp dIx (dVar 5) (dC (.int 1)))) (oSome (dOp dAdd (dOp dIx (dVar 5) (dC (.int 2))) (dC (.int 1)))))) (nmG 6) bYes (dOp dIx (dVar 6) (dVar 2)) [6] finF) (lCons (dVar 4) lNil)) (dC (.int 1))))
  (sRet (dTup (lCons (dVar 4) (lCons (dVar 4) lNil))))
  sNext)
  sNext)))
  (sRet (dTup (lCons (dC (.int 0)) (lCons (dVar 4) lNil))))))))))
def T_Sights_ways (C_Sights C_NotPossible : Addr) : TSd :=
  (sSeq (sAsg (dMethA C_Sights "agreed_widths" (pkP 1 [0] [] (sp_Sights_agreed_widths C_Sights C_NotPossible)) (dVar 0) (d2 lNil lNil 0)) (nmG 1))
  (sSeq (sAsg (dC (.int 1)) (nmG 2))
  (sSeq (sFor (iSeq (dSS (iSeq (dFld C_Sights "held_sights" (dVar 0))) (nmG 12) (dTup (lCons (dOp dIx (dVar 12) (dC (.int 0))) (lCons (dOp dIx (dVar 12) (dC (.int 3))) lNil))) [12])) (tupG 2 (gsCons (nmG 3) (gsCons (nmG 4) gsNil)))
  (sSeq (sAsg (dLc (iEnumD (lCons (dVar 1) lNil)) (tupG 2 (gsCons (nmG 13) (gsCons (nmG 14) gsNil))) (bAnd (bOf (dOp dLt (dVar 3) (dCB cLen (lCons (dVar 14) lNil)))) (bOf (dOp dEqF (dOp dIx (dVar 14) (dVar 3)) (dVar 4)))) (dVar 13) [13, 14] finF) (nmG 5))
  (sSeq (sAsg (dLstO lNil) (nmG 6))
  (sSeq (sFor (iSeq (dFld C_Sights "held_sights" (dVar 0))) (tupG 4 (gsCons (nmG 7) (gsCons (nmG 8) (gsCons (nmG 9) (gsCons (nmG 10) gsNil)))))
  (sJ (sIf (bOf (dOp dEq (dTup (lCons (dVar 7) (lCons (dVar 10) lNil))) (dTup (lCons (dVar 3) (lCons (dVar 4) lNil)))))
  (sSeq (sAsg (dLc (iEnumD (lCons (dVar 5) lNil)) (tupG 2 (gsCons (nmG 15) (gsCons (nmG 13) gsNil))) (bOf (dChain dLe dLe (dVar 8) (dVar 13) (dVar 9))) (dVar 15) [15, 13] finF) (nmG 11))
  (sDrop (dBM mAppend (dVar 6) (lCons (dTup (lCons (dOp dIx (dVar 11) (dC (.int 0))) (lCons (dOp dIx (dVar 11) (dUn uNeg (dC (.int 1)))) lNil))) lNil))))
  sNext)))
  (sAug 2 (dCall sp_count_marked (lCons (dCB cLen (lCons (dVar 5) lNil)) (lCons (dVar 6) (lCons (dVar 4) lNil)))) dMulI)))))
  (sRet (dVar 2)))))
def T_Sights_widest (C_Sights C_NotPossible : Addr) : TSd :=
  (sRet (dLc (iSeq (dMethA C_Sights "agreed_widths" (pkP 1 [0] [] (sp_Sights_agreed_widths C_Sights C_NotPossible)) (dVar 0) (d2 lNil lNil 0))) (nmG 1) bYes (dLc (iSeq (dVar 1)) (nmG 2) bYes (dJ (dIf (bOf (dOp dIsN (dVar 2) (dC .non))) (dC (.int 0)) (dVar 2))) [2] finO) [1] finO))
def T__law_churn : TSd :=
  (sSeq (sAsg (dJ (dIf (bOf (dOp dLt (dVar 1) (dCB cLen (lCons (dVar 0) lNil)))) (dCB cAbs (lCons (dOp dIx (dVar 0) (dVar 1)) lNil)) (dC (.int 0)))) (nmG 2))
  (sRet (dLstO (lCons (dCB cMax2 (lCons (dC (.int 0)) (lCons (dOp dSub (dVar 2) (dOp dPow (dC (.int 10)) (dC (.int 18)))) lNil))) (lCons (dOp dAdd (dOp dMul (dOp dMod (dVar 2) (dOp dAdd (dOp dPow (dC (.int 10)) (dC (.int 39))) (dC (.int 3)))) (dC (.int 64))) (dVar 1)) (lCons (dC (.int 0)) lNil))))))
def T__law_dab : TSd :=
  (sSeq (sIf (bOf (dOp dGt (dOp dIx (dVar 0) (dC (.int 0))) (dC (.int 0))))
  (sSeq (sAsg (dOp dMod (dOp dIx (dVar 0) (dC (.int 0))) (dVar 1)) (nmG 2))
  (sSeq (sAsg (dOp dDiv (dOp dIx (dVar 0) (dC (.int 0))) (dVar 1)) (subG dSetO (dVar 0) (dC (.int 0))))
  (sRet (dVar 2))))
  sNext)
  (sSeq (sAsg (dOp dAdd (dOp dIx (dVar 0) (dC (.int 2))) (dC (.int 1))) (subG dSetO (dVar 0) (dC (.int 2))))
  (sSeq (sAsg (dOp dMod (dOp dPow (dOp dAdd (dOp dIx (dVar 0) (dC (.int 1))) (dOp dMul (dC (.int 32452867)) (dOp dIx (dVar 0) (dC (.int 2))))) (dC (.int 3))) (dOp dAdd (dOp dPow (dC (.int 10)) (dC (.int 41))) (dC (.int 37)))) (nmG 3))
  (sSeq (sAsg (dOp dMod (dOp dPow (dOp dAdd (dVar 3) (dOp dMul (dC (.int 15485867)) (dOp dIx (dVar 0) (dC (.int 2))))) (dC (.int 5))) (dOp dAdd (dOp dPow (dC (.int 10)) (dC (.int 38))) (dC (.int 133)))) (nmG 3))
  (sRet (dOp dMod (dOp dDiv (dVar 3) (dC (.int 786433))) (dVar 1)))))))
def T__law_marks : TSd :=
  (sSeq (sPar3 3 4 5 (lCons (dCall sp__law_dab (lCons (dVar 0) (lCons (dC (.int 3)) lNil))) (lCons (dLstO lNil) (lCons (dCall sp__law_dab (lCons (dVar 0) (lCons (dOp dAdd (dVar 2) (dC (.int 1))) lNil))) lNil))))
  (sSeq (sFor (iRg1 (lCons (dOp dAdd (dC (.int 1)) (dCall sp__law_dab (lCons (dVar 0) (lCons (dVar 1) lNil)))) lNil)) (nmG 6)
  (sSeq (sAsg (dCall sp__law_dab (lCons (dVar 0) (lCons (dOp dAdd (dVar 2) (dC (.int 1))) lNil))) (nmG 7))
  (sSeq (sAsg (dCB cMax2 (lCons (dC (.int 0)) (lCons (dCB cMin2 (lCons (dVar 2) (lCons (dOp dSub (dOp dAdd (dVar 5) (dOp dMod (dVar 7) (dC (.int 3)))) (dC (.int 1))) lNil))) lNil))) (nmG 8))
  (sSeq (sAsg (dOp dIx (dLst (lCons (dVar 7) (lCons (dOp dIx (dLst (lCons (dVar 5) (lCons (dVar 5) (lCons (dVar 5) (lCons (dVar 7) lNil))))) (dCall sp__law_dab (lCons (dVar 0) (lCons (dC (.int 4)) lNil)))) (lCons (dVar 8) lNil)))) (dVar 3)) (nmG 5))
  (sDrop (dBM mAppend (dVar 4) (lCons (dVar 5) lNil)))))))
  (sRet (dFz (dVar 4)))))
def T__law_cells : TSd :=
  (sSeq (sAsg (dLstO lNil) (nmG 3))
  (sSeq (sFor (iSeq (dVar 1)) (nmG 4)
  (sSeq (sAsg (dLstO lNil) (nmG 5))
  (sSeq (sFor (iRg1 (lCons (dVar 4) lNil)) (nmG 6)
  (sDrop (dBM mAppend (dVar 5) (lCons (dOp dMod (dOp dIx (dLst (lCons (dCall sp__law_dab (lCons (dVar 0) (lCons (dC (.int 3)) lNil))) (lCons (dCall sp__law_dab (lCons (dVar 0) (lCons (dVar 2) lNil))) (lCons (dOp dSub (dVar 2) (dC (.int 1))) lNil)))) (dCall sp__law_dab (lCons (dVar 0) (lCons (dC (.int 3)) lNil)))) (dVar 2)) lNil))))
  (sDrop (dBM mAppend (dVar 3) (lCons (dFz (dVar 5)) lNil))))))
  (sRet (dFz (dVar 3)))))
def T__law_looks : TSd :=
  (sSeq (sPar 5 6 (lCons (dLc (iEnumD (lCons (dVar 1) lNil)) (tupG 2 (gsCons (nmG 13) (gsCons (nmG 14) gsNil))) (bOf (dOp dGt (dVar 14) (dC (.int 0)))) (dVar 13) [13, 14] finF) (lCons (dLstO lNil) lNil)))
  (sSeq (sFor (iRg1 (lCons (dOp dMul (dVar 3) (dCB cInt (lCons (dOp dNe (dVar 5) (dLst lNil)) lNil))) lNil)) (nmG 7)
  (sSeq (sAsg (dOp dIx (dVar 5) (dCall sp__law_dab (lCons (dVar 0) (lCons (dCB cLen (lCons (dVar 5) lNil)) lNil)))) (nmG 8))
  (sSeq (sAsg (dTup (lCons (dOp dIx (dLst (lCons (dC (.int 0)) (lCons (dCall sp__law_dab (lCons (dVar 0) (lCons (dOp dIx (dVar 1) (dVar 8)) lNil))) lNil))) (dCall sp__law_dab (lCons (dVar 0) (lCons (dC (.int 2)) lNil)))) (lCons (dVar 8) lNil))) (tupG 2 (gsCons (nmG 9) (gsCons (nmG 10) gsNil))))
  (sSeq (sFor (iRg1 (lCons (dOp dIx (dLst (lCons (dC (.int 0)) (lCons (dC (.int 1)) (lCons (dC (.int 3)) (lCons (dC (.int 60)) lNil))))) (dCall sp__law_dab (lCons (dVar 0) (lCons (dC (.int 4)) lNil)))) lNil)) (nmG 11)
  (sJ (sIf (bAnd (bOf (dOp dGt (dVar 8) (dC (.int 0)))) (bAnd (bOf (dOp dGt (dOp dIx (dVar 1) (dOp dSub (dVar 8) (dC (.int 1)))) (dVar 9))) (bOf (dOp dEqF (dCall sp__law_dab (lCons (dVar 0) (lCons (dC (.int 2)) lNil))) (dC (.int 0))))))
  (sAsg (dOp dSub (dVar 8) (dC (.int 1))) (nmG 8))
  (sJ (sIf (bAnd (bOf (dOp dLt (dOp dAdd (dVar 10) (dC (.int 1))) (dCB cLen (lCons (dVar 1) lNil)))) (bOf (dOp dGt (dOp dIx (dVar 1) (dOp dAdd (dVar 10) (dC (.int 1)))) (dVar 9))))
  (sAsg (dOp dAdd (dVar 10) (dC (.int 1))) (nmG 10))
  sNext)))))
  (sSeq (sAsg (dCB cMax (lCons (dLc (iSeq (dSl dSlL (dVar 2) (oSome (dVar 8)) (oSome (dOp dAdd (dVar 10) (dC (.int 1)))))) (nmG 15) bYes (dOp dIx (dVar 15) (dVar 9)) [15] finF) lNil)) (nmG 12))
  (sSeq (sJ (sIf (bAnd (bOf (dVar 4)) (bOf (dOp dEqF (dCall sp__law_dab (lCons (dVar 0) (lCons (dC (.int 6)) lNil))) (dC (.int 0)))))
  (sAsg (dOp dIx (dLst (lCons (dCB cMax2 (lCons (dC (.int 0)) (lCons (dOp dSub (dVar 12) (dC (.int 1))) lNil))) (lCons (dOp dAdd (dVar 12) (dC (.int 1))) (lCons (dCall sp__law_dab (lCons (dVar 0) (lCons (dOp dAdd (dVar 12) (dC (.int 1))) lNil))) lNil)))) (dCall sp__law_dab (lCons (dVar 0) (lCons (dC (.int 3)) lNil)))) (nmG 12))
  sNext))
  (sDrop (dBM mAppend (dVar 6) (lCons (dTup (lCons (dVar 9) (lCons (dVar 8) (lCons (dVar 10) (lCons (dVar 12) lNil))))) lNil)))))))))
  (sRet (dFz (dVar 6)))))
def T__law_inside : TSd :=
  (sRet (dAnd (dOp dEqF (dOp dIx (dVar 0) (dC (.int 0))) (dVar 2)) (dChain dLe dLe (dOp dIx (dVar 0) (dC (.int 1))) (dVar 1) (dOp dIx (dVar 0) (dC (.int 2))))))
def T__law_few : TSd :=
  (sSeq (sAsg (dTup (lCons (dLstO lNil) (lCons (dLst lNil) lNil))) (tupG 2 (gsCons (nmG 2) (gsCons (nmG 3) gsNil))))
  (sSeq (sFor (iSeq (dVar 0)) (nmG 4)
  (sSeq (sAsg (dLc (iRg2 (lCons (dOp dIx (dVar 4) (dC (.int 1))) (lCons (dOp dAdd (dOp dIx (dVar 4) (dC (.int 2))) (dC (.int 1))) lNil))) (nmG 6) (bOf (dOp dNotInE (dTup (lCons (dVar 6) (lCons (dOp dIx (dVar 4) (dC (.int 0))) lNil))) (dVar 3))) (dTup (lCons (dVar 6) (lCons (dOp dIx (dVar 4) (dC (.int 0))) lNil))) [6] finF) (nmG 5))
  (sJ (sIf (bOf (dOp dLe (dOp dAdd (dCB cLen (lCons (dVar 3) lNil)) (dCB cLen (lCons (dVar 5) lNil))) (dVar 1)))
  (sSeq (sDrop (dBM mAppend (dVar 2) (lCons (dVar 4) lNil)))
  (sAsg (dOp dAdd (dVar 3) (dVar 5)) (nmG 3)))
  sNext))))
  (sRet (dLst (lCons (dFz (dVar 2)) (lCons (dCB cSortQ (lCons (dVar 3) lNil)) lNil))))))
def T__law_all : TSd :=
  (sSeq (sAsg (dCB cMax (lCons (dOp dAdd (dLst (lCons (dC (.int 0)) lNil)) (dLc (iSeq (dVar 1)) (nmG 10) bYes (dOp dIx (dVar 10) (dC (.int 3))) [10] finF)) lNil)) (nmG 2))
  (sSeq (sAsg (dLst (lCons (dLst lNil) lNil)) (nmG 3))
  (sSeq (sFor (iSeq (dVar 0)) (nmG 4)
  (sSeq (sAsg (dLstO lNil) (nmG 5))
  (sSeq (sFor (iSeq (dVar 3)) (nmG 6)
  (sDrop (dBM mExtend (dVar 5) (lCons (dLc (iRg1 (lCons (dOp dAdd (dVar 2) (dC (.int 1))) lNil)) (nmG 11) bYes (dOp dAdd (dVar 6) (dLst (lCons (dVar 11) lNil))) [11] finF) lNil))))
  (sAsg (dVar 5) (nmG 3)))))
  (sSeq (sAsg (dLstO lNil) (nmG 7))
  (sSeq (sFor (iSeq (dVar 3)) (nmG 6)
  (sSeq (sAsg (dC (.bl true)) (nmG 8))
  (sSeq (sFor (iSeq (dVar 1)) (nmG 10)
  (sSeq (sAsg (dLc (iEnumD (lCons (dVar 0) lNil)) (tupG 2 (gsCons (nmG 12) (gsCons (nmG 4) gsNil))) (bOf (dCall sp__law_inside (lCons (dVar 10) (lCons (dOp dIx (dVar 4) (dC (.int 0))) (lCons (dOp dIx (dVar 4) (dC (.int 1))) lNil))))) (dOp dIx (dVar 6) (dVar 12)) [12, 4] finF) (nmG 9))
  (sAsg (dAnd (dVar 8) (dOp dEqF (dCB cMax (lCons (dVar 9) lNil)) (dOp dIx (dVar 10) (dC (.int 3))))) (nmG 8))))
  (sJ (sIf (bOf (dVar 8))
  (sDrop (dBM mAppend (dVar 7) (lCons (dVar 6) lNil)))
  sNext)))))
  (sRet (dFz (dVar 7))))))))
def T__law_told (C_Sights C_NotPossible : Addr) : TSd :=
  (sTryH [C_NotPossible] 2 (sSeq (sIf (bOf (dOp dEqF (dVar 1) (dC (.int 0))))
  (sRet (dMethA C_Sights "bounds" (pkP 1 [0] [] (sp_Sights_bounds C_Sights C_NotPossible)) (dVar 0) (d2 lNil lNil 0)))
  sNext)
  (sRet (dJ (dIf (bOf (dOp dEqF (dVar 1) (dC (.int 1)))) (dMethA C_Sights "ways" (pkP 1 [0] [] (sp_Sights_ways C_Sights C_NotPossible)) (dVar 0) (d2 lNil lNil 0)) (dMethA C_Sights "widest" (pkP 1 [0] [] (sp_Sights_widest C_Sights C_NotPossible)) (dVar 0) (d2 lNil lNil 0)))))) (sRet (dTup (lCons (dC (.str "reason")) (lCons (dXFld [C_NotPossible] "reason" (dVar 2)) lNil)))))
def T__law_range (C_Sights C_NotPossible C_InvalidLine C_InvalidColumn : Addr) : TSd :=
  (sTryH [C_NotPossible] 3 (sRet (dMethA C_Sights "cell_range" (pkP 3 [0, 1, 2] [] (sp_Sights_cell_range C_Sights C_InvalidLine C_InvalidColumn C_NotPossible)) (dVar 0) (d2 (lCons (dVar 1) (lCons (dVar 2) lNil)) lNil 0))) (sRet (dTup (lCons (dC (.str "reason")) (lCons (dXFld [C_NotPossible] "reason" (dVar 3)) lNil)))))
def T__law_right (C_Sights C_InvalidLine C_InvalidColumn C_NotPossible : Addr) : TSd :=
  (sSeq (sAsg (dTup (lCons (dMakeA C_Sights (pkP 3 [0, 1, 2] [] (sp_Sights___init__ C_Sights)) (d2 (lCons (dVar 0) (lCons (dVar 1) lNil)) lNil 0)) (lCons (dCall sp__law_all (lCons (dVar 2) (lCons (dVar 1) lNil))) lNil))) (tupG 2 (gsCons (nmG 3) (gsCons (nmG 4) gsNil))))
  (sSeq (sAsg (dMethA C_Sights "conflict" (pkP 1 [0] [] (sp_Sights_conflict C_Sights)) (dVar 3) (d2 lNil lNil 0)) (nmG 5))
  (sSeq (sIf (bOf (dOp dNeF (dOp dIsN (dVar 5) (dC .non)) (dOp dNe (dVar 4) (dLst lNil))))
  (sRet (dC (.bl false)))
  sNext)
  (sSeq (sIf (bOf (dOp dEq (dVar 4) (dLst lNil)))
  (sSeq (sAsg (dOp dAdd (dLc (iRg1 (lCons (dC (.int 3)) lNil)) (nmG 12) bYes (dCall (sp__law_told C_Sights) (lCons (dVar 3) (lCons (dVar 12) lNil))) [12] finF) (dLst (lCons (dCall (sp__law_range C_Sights) (lCons (dVar 3) (lCons (dOp dIx (dOp dIx (dVar 2) (dC (.int 0))) (dC (.int 0))) (lCons (dOp dIx (dOp dIx (dVar 2) (dC (.int 0))) (dC (.int 1))) lNil)))) lNil))) (nmG 6))
  (sRet (dOp dEq (dVar 6) (dOp dMul (dLst (lCons (dTup (lCons (dC (.str "reason")) (lCons (dVar 5) lNil))) lNil)) (dC (.int 4))))))
  sNext)
  (sSeq (sAsg (dLc (iSeq (dVar 0)) (nmG 13) bYes (dOp dMulO (dLst (lCons (dC (.int 0)) lNil)) (dVar 13)) [13] finO) (nmG 7))
  (sSeq (sFor (iEnumD (lCons (dVar 0) lNil)) (tupG 2 (gsCons (nmG 8) (gsCons (nmG 13) gsNil)))
  (sFor (iRg1 (lCons (dVar 13) lNil)) (nmG 9)
  (sSeq (sAsg (dC .non) (nmG 10))
  (sSeq (sJ (sIf (bOf (dOp dInE (dTup (lCons (dVar 8) (lCons (dVar 9) lNil))) (dVar 2)))
  (sSeq (sAsg (dSI (dLc (iSeq (dVar 4)) (nmG 14) bYes (dOp dIx (dVar 14) (dBM mIdxE (dVar 2) (lCons (dTup (lCons (dVar 8) (lCons (dVar 9) lNil))) lNil))) [14] finF)) (nmG 11))
  (sSeq (sAsg (dTup (lCons (dOp dIx (dVar 11) (dC (.int 0))) (lCons (dOp dIx (dVar 11) (dUn uNeg (dC (.int 1)))) lNil))) (nmG 10))
  (sSeq (sAsg (dOp dIx (dVar 11) (dUn uNeg (dC (.int 1)))) (subG dSetO (dOp dIx (dVar 7) (dVar 8)) (dVar 9)))
  (sIf (bOf (dOp dNe (dVar 11) (dLRg2 (dOp dIx (dVar 11) (dC (.int 0))) (dOp dAdd (dOp dIx (dVar 11) (dUn uNeg (dC (.int 1)))) (dC (.int 1))))))
  (sRet (dC (.bl false)))
  sNext))))
  sNext))
  (sIf (bOr (bOf (dOp dNeF (dCB cReprX (lCons (dMethA C_Sights "cell_range" (pkP 3 [0, 1, 2] [] (sp_Sights_cell_range C_Sights C_InvalidLine C_InvalidColumn C_NotPossible)) (dVar 3) (d2 (lCons (dVar 8) (lCons (dVar 9) lNil)) lNil 0)) lNil)) (dCB cReprX (lCons (dVar 10) lNil)))) (bOf (dOp dNe (dMethA C_Sights "cell_range" (pkP 1 [0, 2, 1] [] (sp_Sights_cell_range C_Sights C_InvalidLine C_InvalidColumn C_NotPossible)) (dVar 3) (d2 lNil (lCons (dVar 9) (lCons (dVar 8) lNil)) 2)) (dVar 10))))
  (sRet (dC (.bl false)))
  sNext)))))
  (sRet (dOp dEqF (dCB cReprX (lCons (dLst (lCons (dMethA C_Sights "ways" (pkP 1 [0] [] (sp_Sights_ways C_Sights C_NotPossible)) (dVar 3) (d2 lNil lNil 0)) (lCons (dMethA C_Sights "widest" (pkP 1 [0] [] (sp_Sights_widest C_Sights C_NotPossible)) (dVar 3) (d2 lNil lNil 0)) lNil))) lNil)) (dCB cReprX (lCons (dLst (lCons (dCB cLen (lCons (dVar 4) lNil)) (lCons (dVar 7) lNil))) lNil))))))))))
def T_law : TSd :=
  (sSeq (sFor (iRg1 (lCons (dCB cMax2 (lCons (dC (.int 1)) (lCons (dCB cMin2 (lCons (dC (.int 4)) (lCons (dCB cLen (lCons (dVar 0) lNil)) lNil))) lNil))) lNil)) (nmG 1)
  (sSeq (sAsg (dCall sp__law_churn (lCons (dVar 0) (lCons (dVar 1) lNil))) (nmG 2))
  (sFor (iRg1 (lCons (dC (.int 2)) lNil)) (nmG 3)
  (sSeq (sAsg (dCall sp__law_marks (lCons (dVar 2) (lCons (dC (.int 4)) (lCons (dC (.int 3)) lNil)))) (nmG 4))
  (sSeq (sAsg (dCall sp__law_cells (lCons (dVar 2) (lCons (dVar 4) (lCons (dC (.int 4)) lNil)))) (nmG 5))
  (sSeq (sAsg (dCall sp__law_few (lCons (dCall sp__law_looks (lCons (dVar 2) (lCons (dVar 4) (lCons (dVar 5) (lCons (dCall sp__law_dab (lCons (dVar 2) (lCons (dC (.int 8)) lNil))) (lCons (dOp dEqF (dCall sp__law_dab (lCons (dVar 2) (lCons (dC (.int 2)) lNil))) (dC (.int 0))) lNil)))))) (lCons (dC (.int 5)) lNil))) (lsG 2 (gsCons (nmG 6) (gsCons (nmG 7) gsNil))))
  (sSeq (sAsg (dLc (iSeq (dVar 6)) (nmG 8) bYes (dOp dAddT (dSl dSlT (dVar 8) oNone (oSome (dC (.int 3)))) (dTup (lCons (dCB cMin2 (lCons (dC (.int 3)) (lCons (dOp dIx (dVar 8) (dC (.int 3))) lNil))) lNil))) [8] finF) (nmG 6))
  (sIf (bNot (bOf (dCall sp__law_right (lCons (dVar 4) (lCons (dVar 6) (lCons (dVar 7) lNil))))))
  (sRet (dC (.bl false)))
  sNext))))))))
  (sRet (dCall sp__law_right (lCons (dLst (lCons (dC (.int 1)) (lCons (dC (.int 1)) (lCons (dC (.int 1)) lNil)))) (lCons (dLst (lCons (dTup (lCons (dC (.int 0)) (lCons (dC (.int 0)) (lCons (dC (.int 1)) (lCons (dC (.int 3)) lNil))))) (lCons (dTup (lCons (dC (.int 0)) (lCons (dC (.int 1)) (lCons (dC (.int 2)) (lCons (dC (.int 2)) lNil))))) lNil))) (lCons (dLst (lCons (dTup (lCons (dC (.int 0)) (lCons (dC (.int 0)) lNil))) (lCons (dTup (lCons (dC (.int 1)) (lCons (dC (.int 0)) lNil))) (lCons (dTup (lCons (dC (.int 2)) (lCons (dC (.int 0)) lNil))) lNil)))) lNil))))))
local macro_rules | `(tactic| walk_at "dl") => `(tactic| ((try simp only [gstart, gwipe, List.set_set, List.map_cons, List.map_nil, List.length_cons, List.length_nil, rep_0, rep_s, List.cons_append, List.nil_append, List.set_cons_zero, List.set_cons_succ, Nat.reduceAdd, Nat.reduceSub, Nat.zero_add, Nat.add_zero]); (try simp only [↓dv0, ↓dv1, ↓dv2, ↓dv3, ↓dv4, ↓dv5, ↓dv6, ↓dv7, ↓dv8, ↓dv9, ↓dv10, ↓dv11, ↓dv12, ↓dv13, ↓dv14, ↓dv15, ↓dv16, ↓dv17, ↓dv18, ↓dv19, ↓dv20, ↓dv21, ↓dv22, ↓dv23, ↓dv24, ↓dv25, ↓dv26, ↓dv27, ↓dv28, ↓dv29, ↓dv30, ↓dv31, ↓dv32, ↓dv33, ↓dv34, ↓dv35, ↓dv36, ↓dv37, ↓dv38, ↓dv39, ↓nm0, ↓nm1, ↓nm2, ↓nm3, ↓nm4, ↓nm5, ↓nm6, ↓nm7, ↓nm8, ↓nm9, ↓nm10, ↓nm11, ↓nm12, ↓nm13, ↓nm14, ↓nm15, ↓nm16, ↓nm17, ↓nm18, ↓nm19, ↓nm20, ↓nm21, ↓nm22, ↓nm23, ↓nm24, ↓nm25, ↓nm26, ↓nm27, ↓nm28, ↓nm29, ↓nm30, ↓nm31, ↓nm32, ↓nm33, ↓nm34, ↓nm35, ↓nm36, ↓nm37, ↓nm38, ↓nm39, ↓sPar_n, ↓sPar3_n, ↓sAug_n, ↓reduceIte, List.set_set, ↓sNext_e, ↓sSeq_e, ↓sBrk_e, ↓sCnt_e, ↓sDrop_e, ↓sRet_e, ↓sRetN_e, ↓sIf_e, ↓sAsg_e, ↓sRaise_e, ↓nmG_e, ↓tupG_e, ↓gsNil_e, ↓gsCons_e, ↓subG_e, ↓dC_e, ↓dOp_e, ↓dUn_e, ↓dChain_e, ↓bOf_e, ↓bAnd_e, ↓bOr_e, ↓bNot_e, ↓bYes_e, ↓dAnd_e, ↓dOr_e, ↓dNot_e, ↓dIf_e, ↓lNil_e, ↓lCons_e, ↓dLst_e, ↓dDic0_e, ↓dDic1_e, ↓dLenSetG_e, dIsB_b, ↓dLstO_e, ↓dTup_e, ↓dCB_e, ↓dCall_e, ↓dCallK_e, ↓oNone_e, ↓oSome_e, ↓dSl_e, ↓dBM_e, ↓dBM0_e, ↓dFz_e, ↓dFz2_e, ↓d2_e, ↓dLone_e, ↓lStar_e, ↓dCallA_e, ↓dMakeA_e, ↓dMakeV_e, ↓dMethA_e, ↓dCMethA_e, ↓dPropA_e, ↓dFld_e, ↓sFldS_e, ↓dFzI_e, ↓fzID_o, ↓dM1_e, ↓dM0_e, ↓dRev_e, ↓mSplit_s, ↓mUpper_s, ↓exStr, ↓exZ, ↓cStrI_i, ↓cIntS_s, ↓iStrD_e, ↓dEqF_s, ↓dNeF_s, ↓dEqF_i, ↓dNeF_i, ↓dSign_s, ↓sRaiseI_e, ↓dXFld_e, ↓mPop_e, ↓dAddO_l, ↓dAddO_o, ↓dMk0_e, ↓sKeep_e, ↓sTryH_e, ↓dCVal_e, ↓dConI_e, ↓cLen_s, ↓dIx_s, ↓dSlS_s, ↓dAdd_s, ↓cTup_l, ↓pkP_e, ↓pkS_e, ↓lstG_e, ↓asI_i, ↓iSeq_e, ↓iTupD_e, ↓iRg1_e, ↓iRg2_e, ↓iZipD_e, ↓iEnumD_e, ↓sFor_e, ↓dLc_e, ↓finF_e, ↓finO_e, ↓fzD_l, ↓fzD_i, ↓fzD_o, ↓fzD2_o, ↓dSetO_e, ↓mAppend_e, ↓mClear_e, ↓mReverse_e, List.map_cons, List.map_nil, List.length_cons, List.length_nil, rep_0, rep_s, List.cons_append, List.nil_append, List.getElem?_cons_zero, List.getElem?_cons_succ, List.set_cons_zero, List.set_cons_succ, Nat.reduceAdd, Nat.reduceSub, Nat.zero_add, Nat.add_zero, ↓exSS, ↓exB, ↓exI, ↓ex1, ↓ex2, ↓ex3, ↓exI1, ↓exI2, ↓exT, ↓exC, ↓exAs, ↓dAdd_i, ↓dAddI_i, ↓dSubI_i, ↓dLRg_e, ↓dIsiT_e, ↓dLenSet_e, ↓bChain3_e, ↓dLRg2_e, ↓iRg3_e, ↓dLc2_e, ↓dSlT_t, ↓dNew_e, ↓sDct_e, ↓dMulO_l, ↓dLRgO_e, ↓dAdd_l, ↓dSub_i, ↓dMul_i, ↓dMul_l, ↓dMod_i, ↓dDiv_i, ↓dPow_i, ↓dLt_i, ↓dLe_i, ↓dGt_i, ↓dGe_i, ↓uNeg_i, ↓cMax2_i, ↓cMin2_i, ↓cAbs_i, ↓cInt_i, ↓cInt_b, ↓cLen_l, ↓cLen_q, ↓cLen_t, ↓cList_l, ↓cList_q, ↓cList_t, ↓cListO_l, ↓cListO_t, ↓dIx_l, ↓dIx_q, ↓dIx_t, ↓dIx_o', ↓exS, ↓exL, at_1, at_2, at_3, at_4, ix30, ix31, ix32, ↓dSlL_l, ↓dSlL_q, ↓asQ_l, ↓asL_l, at_0, ↓isi_non_int, ↓isi_non_bool, ↓isi_non_str, ↓isi_non_list, ↓isi_non_tuple, ↓isi_non_dict, ↓isi_bl_int, ↓isi_bl_bool, ↓isi_bl_str, ↓isi_bl_list, ↓isi_bl_tuple, ↓isi_bl_dict, ↓isi_int_int, ↓isi_int_bool, ↓isi_int_str, ↓isi_int_list, ↓isi_int_tuple, ↓isi_int_dict, ↓isi_str_int, ↓isi_str_bool, ↓isi_str_str, ↓isi_str_list, ↓isi_str_tuple, ↓isi_str_dict, ↓isi_lst_int, ↓isi_lst_bool, ↓isi_lst_str, ↓isi_lst_list, ↓isi_lst_tuple, ↓isi_lst_dict, ↓isi_sq_int, ↓isi_sq_bool, ↓isi_sq_str, ↓isi_sq_list, ↓isi_sq_tuple, ↓isi_sq_dict, ↓isi_tup_int, ↓isi_tup_bool, ↓isi_tup_str, ↓isi_tup_list, ↓isi_tup_tuple, ↓isi_tup_dict, ↓isi_dic_int, ↓isi_dic_bool, ↓isi_dic_str, ↓isi_dic_list, ↓isi_dic_tuple, ↓isi_dic_dict, if_true, if_false, Bool.not_true, Bool.not_false, true_and, and_true, reduceCtorEq, Bool.true_eq_false, Bool.false_eq_true, ite_true, ite_false, ↓exAny, ↓isLst_l, Int.toNat_natCast, Int.reduceToNat, dVar_e, sPar_e, sPar3_e, sAug_e])))
local macro_rules | `(tactic| walk_at "dls") => `(tactic| ((try simp only [gstart, gwipe, List.set_set, List.map_cons, List.map_nil, List.length_cons, List.length_nil, rep_0, rep_s, List.cons_append, List.nil_append, List.set_cons_zero, List.set_cons_succ, Nat.reduceAdd, Nat.reduceSub, Nat.zero_add, Nat.add_zero]); (try simp only [*, ↓dv0, ↓dv1, ↓dv2, ↓dv3, ↓dv4, ↓dv5, ↓dv6, ↓dv7, ↓dv8, ↓dv9, ↓dv10, ↓dv11, ↓dv12, ↓dv13, ↓dv14, ↓dv15, ↓dv16, ↓dv17, ↓dv18, ↓dv19, ↓dv20, ↓dv21, ↓dv22, ↓dv23, ↓dv24, ↓dv25, ↓dv26, ↓dv27, ↓dv28, ↓dv29, ↓dv30, ↓dv31, ↓dv32, ↓dv33, ↓dv34, ↓dv35, ↓dv36, ↓dv37, ↓dv38, ↓dv39, ↓nm0, ↓nm1, ↓nm2, ↓nm3, ↓nm4, ↓nm5, ↓nm6, ↓nm7, ↓nm8, ↓nm9, ↓nm10, ↓nm11, ↓nm12, ↓nm13, ↓nm14, ↓nm15, ↓nm16, ↓nm17, ↓nm18, ↓nm19, ↓nm20, ↓nm21, ↓nm22, ↓nm23, ↓nm24, ↓nm25, ↓nm26, ↓nm27, ↓nm28, ↓nm29, ↓nm30, ↓nm31, ↓nm32, ↓nm33, ↓nm34, ↓nm35, ↓nm36, ↓nm37, ↓nm38, ↓nm39, ↓sPar_n, ↓sPar3_n, ↓sAug_n, ↓reduceIte, List.set_set, ↓sNext_e, ↓sSeq_e, ↓sBrk_e, ↓sCnt_e, ↓sDrop_e, ↓sRet_e, ↓sRetN_e, ↓sIf_e, ↓sAsg_e, ↓sRaise_e, ↓nmG_e, ↓tupG_e, ↓gsNil_e, ↓gsCons_e, ↓subG_e, ↓dC_e, ↓dOp_e, ↓dUn_e, ↓dChain_e, ↓bOf_e, ↓bAnd_e, ↓bOr_e, ↓bNot_e, ↓bYes_e, ↓dAnd_e, ↓dOr_e, ↓dNot_e, ↓dIf_e, ↓lNil_e, ↓lCons_e, ↓dLst_e, ↓dDic0_e, ↓dDic1_e, ↓dLenSetG_e, dIsB_b, ↓dLstO_e, ↓dTup_e, ↓dCB_e, ↓dCall_e, ↓dCallK_e, ↓oNone_e, ↓oSome_e, ↓dSl_e, ↓dBM_e, ↓dBM0_e, ↓dFz_e, ↓dFz2_e, ↓d2_e, ↓dLone_e, ↓lStar_e, ↓dCallA_e, ↓dMakeA_e, ↓dMakeV_e, ↓dMethA_e, ↓dCMethA_e, ↓dPropA_e, ↓dFld_e, ↓sFldS_e, ↓dFzI_e, ↓fzID_o, ↓dM1_e, ↓dM0_e, ↓dRev_e, ↓mSplit_s, ↓mUpper_s, ↓exStr, ↓exZ, ↓cStrI_i, ↓cIntS_s, ↓iStrD_e, ↓dEqF_s, ↓dNeF_s, ↓dEqF_i, ↓dNeF_i, ↓dSign_s, ↓sRaiseI_e, ↓dXFld_e, ↓mPop_e, ↓dAddO_l, ↓dAddO_o, ↓dMk0_e, ↓sKeep_e, ↓sTryH_e, ↓dCVal_e, ↓dConI_e, ↓cLen_s, ↓dIx_s, ↓dSlS_s, ↓dAdd_s, ↓cTup_l, ↓pkP_e, ↓pkS_e, ↓lstG_e, ↓asI_i, ↓iSeq_e, ↓iTupD_e, ↓iRg1_e, ↓iRg2_e, ↓iZipD_e, ↓iEnumD_e, ↓sFor_e, ↓dLc_e, ↓finF_e, ↓finO_e, ↓fzD_l, ↓fzD_i, ↓fzD_o, ↓fzD2_o, ↓dSetO_e, ↓mAppend_e, ↓mClear_e, ↓mReverse_e, List.map_cons, List.map_nil, List.length_cons, List.length_nil, rep_0, rep_s, List.cons_append, List.nil_append, List.getElem?_cons_zero, List.getElem?_cons_succ, List.set_cons_zero, List.set_cons_succ, Nat.reduceAdd, Nat.reduceSub, Nat.zero_add, Nat.add_zero, ↓exSS, ↓exB, ↓exI, ↓ex1, ↓ex2, ↓ex3, ↓exI1, ↓exI2, ↓exT, ↓exC, ↓exAs, ↓dAdd_i, ↓dAddI_i, ↓dSubI_i, ↓dLRg_e, ↓dIsiT_e, ↓dLenSet_e, ↓bChain3_e, ↓dLRg2_e, ↓iRg3_e, ↓dLc2_e, ↓dSlT_t, ↓dNew_e, ↓sDct_e, ↓dMulO_l, ↓dLRgO_e, ↓dAdd_l, ↓dSub_i, ↓dMul_i, ↓dMul_l, ↓dMod_i, ↓dDiv_i, ↓dPow_i, ↓dLt_i, ↓dLe_i, ↓dGt_i, ↓dGe_i, ↓uNeg_i, ↓cMax2_i, ↓cMin2_i, ↓cAbs_i, ↓cInt_i, ↓cInt_b, ↓cLen_l, ↓cLen_q, ↓cLen_t, ↓cList_l, ↓cList_q, ↓cList_t, ↓cListO_l, ↓cListO_t, ↓dIx_l, ↓dIx_q, ↓dIx_t, ↓dIx_o', ↓exS, ↓exL, at_1, at_2, at_3, at_4, ix30, ix31, ix32, ↓dSlL_l, ↓dSlL_q, ↓asQ_l, ↓asL_l, at_0, ↓isi_non_int, ↓isi_non_bool, ↓isi_non_str, ↓isi_non_list, ↓isi_non_tuple, ↓isi_non_dict, ↓isi_bl_int, ↓isi_bl_bool, ↓isi_bl_str, ↓isi_bl_list, ↓isi_bl_tuple, ↓isi_bl_dict, ↓isi_int_int, ↓isi_int_bool, ↓isi_int_str, ↓isi_int_list, ↓isi_int_tuple, ↓isi_int_dict, ↓isi_str_int, ↓isi_str_bool, ↓isi_str_str, ↓isi_str_list, ↓isi_str_tuple, ↓isi_str_dict, ↓isi_lst_int, ↓isi_lst_bool, ↓isi_lst_str, ↓isi_lst_list, ↓isi_lst_tuple, ↓isi_lst_dict, ↓isi_sq_int, ↓isi_sq_bool, ↓isi_sq_str, ↓isi_sq_list, ↓isi_sq_tuple, ↓isi_sq_dict, ↓isi_tup_int, ↓isi_tup_bool, ↓isi_tup_str, ↓isi_tup_list, ↓isi_tup_tuple, ↓isi_tup_dict, ↓isi_dic_int, ↓isi_dic_bool, ↓isi_dic_str, ↓isi_dic_list, ↓isi_dic_tuple, ↓isi_dic_dict, if_true, if_false, Bool.not_true, Bool.not_false, true_and, and_true, reduceCtorEq, Bool.true_eq_false, Bool.false_eq_true, ite_true, ite_false, ↓exAny, ↓isLst_l, Int.toNat_natCast, Int.reduceToNat, dVar_e, sPar_e, sPar3_e, sAug_e])))
--MD
abbrev Rets (sp : DSpec) (T : TSd) (N : List Str) : Prop := ∀ ds S Φ Ψ, sp ds S Φ Ψ → T { nx := fun _ S' => RetOk S Φ S' .non, rt := RetOk S Φ, er := ErOk S Ψ } (gstart N ds) S
theorem under {n : Nat} (h : n ≤ 1000000) : n < sizeLine := Nat.lt_of_le_of_lt h (by decide)
theorem rep_flat {α : Type} (x : α) : ∀ m : Nat, (List.replicate m [x]).flatten = List.replicate m x
  | 0 => rfl
  | m + 1 => by rw [List.replicate_succ, List.flatten_cons, rep_flat x m, List.replicate_succ]; rfl
theorem all_map {α : Type} {S : Sto} {Φ : KD} (xs : List α) (f : α → Bool) (h : Φ S (.bl (xs.all f))) : cAll [.lst (xs.map fun x => D.bl (f x))] S Φ :=
  ⟨xs.map f, by rw [List.map_map]; rfl, by rw [List.all_map]; exact h⟩
theorem p__law_churn : Rets sp__law_churn T__law_churn N__law_churn := by
  rintro _ S Φ Ψ ⟨ns, k, rfl, hk, h⟩
  unfold T__law_churn
  walk_at "dl"
  have done : ∀ a m : Int, 0 ≤ m → RetOk S Φ (S ++ [Cell.lst [D.int (if a > 0 then a else 0), D.int (m % (10 ^ 39 + 3) * 64 + (k : Int)), D.int 0]]) (D.own S.length) := fun a m hm => by
    refine ret_now (h _ ⟨_, _, 0, rfl, by split <;> omega, ?_, ?_, by decide, by decide⟩)
    · have := Int.emod_nonneg m (show (10 ^ 39 + 3 : Int) ≠ 0 by decide)
      omega
    · have := Int.emod_lt_of_pos m (show (0 : Int) < 10 ^ 39 + 3 by decide)
      omega
  rw [dJ_e]
  walk_at "dl"
  rw [List.length_map]
  by_cases c : k < ns.length
  · rw [if_pos (by rw [decide_eq_true_eq]; omega), at_nat]
    refine ⟨.int (ns[k]), by rw [List.getElem?_map, List.getElem?_eq_getElem c]; rfl, ?_⟩
    walk_at "dl"
    refine ⟨cpw (by decide) (by decide) (by decide), cpw (by decide) (by decide) (by decide), by decide, cmr (by decide) (by decide), small, ?_⟩
    exact done _ _ (by split <;> omega)
  · rw [if_neg (by rw [decide_eq_true_eq]; omega)]
    exact ⟨cpw (by decide) (by decide) (by decide), cpw (by decide) (by decide) (by decide), by decide, cmr (by decide) (by decide), small, done _ _ (by decide)⟩
theorem p__law_dab : Rets sp__law_dab T__law_dab N__law_dab := by
  rintro _ S Φ Ψ ⟨h, n, m, rfl, ⟨c, ec, a, b, k, rfl, ha, hb, hb2, hk, hk2⟩, hn, hm, hm2, q⟩
  unfold T__law_dab
  walk_at "dl"
  have es : ∀ c, (S.set h c)[h]? = some c := fun c => List.getElem?_set_self (List.getElem?_eq_some_iff.mp ec).1
  walk_at "dls"
  by_cases c : 0 < a
  · rw [if_pos (by rw [decide_eq_true_eq]; exact c)]
    refine ⟨cdw hm (by omega), ret_now (q _ _ ⟨_, ⟨_, _, _, rfl, Int.ediv_nonneg ha (by omega), hb, hb2, hk, by omega⟩, rfl⟩ (Int.emod_nonneg _ (by omega)) (Int.emod_lt_of_pos _ hm))⟩
  · rw [if_neg (by rw [decide_eq_true_eq]; exact c)]
    have e1 := Int.emod_nonneg ((b + 32452867 * (k + 1)) ^ 3) (show (10 ^ 41 + 37 : Int) ≠ 0 by decide)
    have e2 := Int.emod_lt_of_pos ((b + 32452867 * (k + 1)) ^ 3) (show (0 : Int) < 10 ^ 41 + 37 by decide)
    refine ⟨cml (by decide) (by decide), cpw (by decide) (by decide) (by omega), cpw (by decide) (by decide) (by decide), by decide, cml (by decide) (by decide), cpw (by decide) (by decide) (by omega), cpw (by decide) (by decide) (by decide), by decide, cdw (by decide) (by decide), ret_now (q _ _ ⟨_, ⟨_, _, _, rfl, ha, hb, hb2, by omega, by omega⟩, rfl⟩ (Int.emod_nonneg _ (by omega)) (Int.emod_lt_of_pos _ hm))⟩
theorem dab_at {S : Sto} {Φ : KD} {Ψ : KX} {h n : Nat} {m : Int} (f : FdAt S h n) (hm : 0 < m) (q : ∀ S' v, Fs h (n + 1) S S' → FdAt S' h (n + 1) → 0 ≤ v → v < m → Φ S' (.int v)) (hn : n < 2 ^ 100 := by omega) (hm2 : m < 2 ^ 200 := by omega) : sp__law_dab [.own h, .int m] S Φ Ψ :=
  ⟨h, n, m, rfl, f, hn, hm, hm2, fun S' v f' a b => q S' v f' (f'.at f.lt) a b⟩
theorem at_p {ds : List D} {i : Int} {p : D → Prop} {Q : D → Prop} (h0 : 0 ≤ i) (h1 : i < ds.length) (hp : ∀ d ∈ ds, p d) (k : ∀ d, p d → Q d) : ∃ d, atI ds i = some d ∧ Q d := by
  obtain ⟨x, e, m⟩ := ix_all h0 h1
  exact ⟨x, e, k x (hp x m)⟩
theorem p__law_marks : Rets sp__law_marks T__law_marks N__law_marks := by
  rintro _ S Φ Ψ ⟨h, n, a, b, rfl, f, hn, ha, ha2, hb, q⟩
  unfold T__law_marks
  walk_at "dl"
  refine dab_at f (by decide) fun S1 w f1 g1 hw0 hw1 => ?_
  walk_at "dl"
  have gF := f1.cell (.lst []) f.lt
  have lt0 : ∀ c : Cell, h < (S ++ [c]).length := fun c => by have := f.lt; rw [List.length_append]; omega
  have eL : S1.length = S.length := f1.len
  rw [eL]
  refine ⟨small, dab_at (gF.at (lt0 _)) (by omega) fun S2 x f2 g2 hx0 hx1 => ?_⟩
  walk_at "dl"
  refine dab_at g2 (by omega) fun S3 y f3 g3 hy0 hy1 => ?_
  walk_at "dl"
  refine ⟨by omega, by omega, ?_⟩
  have f123 := (gF.trans f2).trans f3
  refine for_r0 (fun i Γ S' => ∃ (ts : List Nat) (x : Nat) (o1 o2 o3 : Option D), Γ = [some (.own h), some (.int a), some (.int b), some (.int w), some (.own S.length), some (.int x), o1, o2, o3] ∧ Fs h (n + 3 + 2 * i) (S ++ [.lst (ts.map fun (n : Nat) => D.int (n : Int))]) S' ∧ ts.length = i ∧ (∀ y ∈ ts, y ≤ b) ∧ x ≤ b) ?_ (fun i Γ' S' hi hp => ?_) fun Γ' S' hp => ?_
  · exact ⟨[], x.toNat, _, _, _, by rw [Int.toNat_of_nonneg hx0], f123, rfl, (fun y hy => absurd hy (by simp)), by omega⟩
  · obtain ⟨ts, x, o1, o2, o3, rfl, fs, hl, hts, hx⟩ := hp
    walk_at "dl"
    refine dab_at (fs.at (lt0 _)) (by omega) fun S4 y f4 g4 hy0 hy1 => ?_
    walk_at "dl"
    refine ⟨by decide, small, dab_at g4 (by decide) fun S5 z f5 g5 hz0 hz1 => ?_⟩
    refine dIx_p (p := fun d => ∃ v : Nat, d = .int v ∧ v ≤ b) hz0 (by show z < 4; exact hz1) ?_ fun d ⟨v, e, hv⟩ => ?_
    · intro d hd
      simp only [List.mem_cons, List.not_mem_nil, or_false] at hd
      rcases hd with rfl | rfl | rfl | rfl
      · exact ⟨x, rfl, hx⟩
      · exact ⟨x, rfl, hx⟩
      · exact ⟨x, rfl, hx⟩
      · exact ⟨y.toNat, by rw [Int.toNat_of_nonneg hy0], by omega⟩
    subst e
    walk_at "dl"
    refine ⟨small, at_p (p := fun d => ∃ v : Nat, d = .int v ∧ v ≤ b) hw0 (by show w < 3; exact hw1) ?_ fun d ⟨u, e, hu⟩ => ?_⟩
    · intro d hd
      simp only [List.mem_cons, List.not_mem_nil, or_false] at hd
      rcases hd with rfl | rfl | rfl
      · exact ⟨y.toNat, by rw [Int.toNat_of_nonneg hy0], by omega⟩
      · exact ⟨v, rfl, hv⟩
      · have h3 : 0 ≤ y % 3 := Int.emod_nonneg _ (by decide)
        refine ⟨Int.toNat _, by rw [Int.toNat_of_nonneg]; (repeat' split) <;> omega, ?_⟩
        (repeat' split) <;> omega
    subst e
    walk_at "dl"
    have fz := (fs.trans f4).trans f5
    obtain ⟨el, fl⟩ := fz.last f.lt
    refine ⟨isLst_at el, _, el, by rw [List.length_map, hl]; have := small (n := a) (by omega); omega, ts ++ [u], u, _, _, _, rfl, ?_, by rw [List.length_append, hl]; rfl, ?_, hu⟩
    · have := fl (.lst (ts.map (fun (n : Nat) => D.int (n : Int)) ++ [.int u]))
      rw [List.map_append]
      exact this.mono (by omega)
    · intro z hz
      rcases List.mem_append.mp hz with hz | hz
      · exact hts z hz
      · rw [List.mem_singleton.mp hz]; exact hu
  · obtain ⟨ts, x, o1, o2, o3, rfl, fs, hl, hts, hx⟩ := hp
    walk_at "dl"
    obtain ⟨el, fl⟩ := fs.last f.lt
    obtain ⟨S1', fs1, e1⟩ := (fl .gone).app f.lt
    refine ⟨_, el, ?_⟩
    rw [e1]
    exact ret_feed fs1 (by rw [D.low]; exact lowA_map _ _ (fun r => by rw [D.low]) ts) (q _ ts (fs1.mono (by omega)) (by omega) (by omega) hts)
end DL
namespace DL
open PySem PySem.Spec PyProof.Rows L2
local macro_rules | `(tactic| walk_at "dl") => `(tactic| ((try simp only [gstart, gwipe, List.set_set, List.map_cons, List.map_nil, List.length_cons, List.length_nil, rep_0, rep_s, List.cons_append, List.nil_append, List.set_cons_zero, List.set_cons_succ, Nat.reduceAdd, Nat.reduceSub, Nat.zero_add, Nat.add_zero]); (try simp only [↓dv0, ↓dv1, ↓dv2, ↓dv3, ↓dv4, ↓dv5, ↓dv6, ↓dv7, ↓dv8, ↓dv9, ↓dv10, ↓dv11, ↓dv12, ↓dv13, ↓dv14, ↓dv15, ↓dv16, ↓dv17, ↓dv18, ↓dv19, ↓dv20, ↓dv21, ↓dv22, ↓dv23, ↓dv24, ↓dv25, ↓dv26, ↓dv27, ↓dv28, ↓dv29, ↓dv30, ↓dv31, ↓dv32, ↓dv33, ↓dv34, ↓dv35, ↓dv36, ↓dv37, ↓dv38, ↓dv39, ↓nm0, ↓nm1, ↓nm2, ↓nm3, ↓nm4, ↓nm5, ↓nm6, ↓nm7, ↓nm8, ↓nm9, ↓nm10, ↓nm11, ↓nm12, ↓nm13, ↓nm14, ↓nm15, ↓nm16, ↓nm17, ↓nm18, ↓nm19, ↓nm20, ↓nm21, ↓nm22, ↓nm23, ↓nm24, ↓nm25, ↓nm26, ↓nm27, ↓nm28, ↓nm29, ↓nm30, ↓nm31, ↓nm32, ↓nm33, ↓nm34, ↓nm35, ↓nm36, ↓nm37, ↓nm38, ↓nm39, ↓sPar_n, ↓sPar3_n, ↓sAug_n, ↓reduceIte, List.set_set, ↓sNext_e, ↓sSeq_e, ↓sBrk_e, ↓sCnt_e, ↓sDrop_e, ↓sRet_e, ↓sRetN_e, ↓sIf_e, ↓sAsg_e, ↓sRaise_e, ↓nmG_e, ↓tupG_e, ↓gsNil_e, ↓gsCons_e, ↓subG_e, ↓dC_e, ↓dOp_e, ↓dUn_e, ↓dChain_e, ↓bOf_e, ↓bAnd_e, ↓bOr_e, ↓bNot_e, ↓bYes_e, ↓dAnd_e, ↓dOr_e, ↓dNot_e, ↓dIf_e, ↓lNil_e, ↓lCons_e, ↓dLst_e, ↓dDic0_e, ↓dDic1_e, ↓dLenSetG_e, dIsB_b, ↓dLstO_e, ↓dTup_e, ↓dCB_e, ↓dCall_e, ↓dCallK_e, ↓oNone_e, ↓oSome_e, ↓dSl_e, ↓dBM_e, ↓dBM0_e, ↓dFz_e, ↓dFz2_e, ↓d2_e, ↓dLone_e, ↓lStar_e, ↓dCallA_e, ↓dMakeA_e, ↓dMakeV_e, ↓dMethA_e, ↓dCMethA_e, ↓dPropA_e, ↓dFld_e, ↓sFldS_e, ↓dFzI_e, ↓fzID_o, ↓dM1_e, ↓dM0_e, ↓dRev_e, ↓mSplit_s, ↓mUpper_s, ↓exStr, ↓exZ, ↓cStrI_i, ↓cIntS_s, ↓iStrD_e, ↓dEqF_s, ↓dNeF_s, ↓dEqF_i, ↓dNeF_i, ↓dSign_s, ↓sRaiseI_e, ↓dXFld_e, ↓mPop_e, ↓dAddO_l, ↓dAddO_o, ↓dMk0_e, ↓sKeep_e, ↓sTryH_e, ↓dCVal_e, ↓dConI_e, ↓cLen_s, ↓dIx_s, ↓dSlS_s, ↓dAdd_s, ↓cTup_l, ↓pkP_e, ↓pkS_e, ↓lstG_e, ↓asI_i, ↓iSeq_e, ↓iTupD_e, ↓iRg1_e, ↓iRg2_e, ↓iZipD_e, ↓iEnumD_e, ↓sFor_e, ↓dLc_e, ↓finF_e, ↓finO_e, ↓fzD_l, ↓fzD_i, ↓fzD_o, ↓fzD2_o, ↓dSetO_e, ↓mAppend_e, ↓mClear_e, ↓mReverse_e, List.map_cons, List.map_nil, List.length_cons, List.length_nil, rep_0, rep_s, List.cons_append, List.nil_append, List.getElem?_cons_zero, List.getElem?_cons_succ, List.set_cons_zero, List.set_cons_succ, Nat.reduceAdd, Nat.reduceSub, Nat.zero_add, Nat.add_zero, ↓exSS, ↓exB, ↓exI, ↓ex1, ↓ex2, ↓ex3, ↓exI1, ↓exI2, ↓exT, ↓exC, ↓exAs, ↓dAdd_i, ↓dAddI_i, ↓dSubI_i, ↓dLRg_e, ↓dIsiT_e, ↓dLenSet_e, ↓bChain3_e, ↓dLRg2_e, ↓iRg3_e, ↓dLc2_e, ↓dSlT_t, ↓dNew_e, ↓sDct_e, ↓dMulO_l, ↓dLRgO_e, ↓dAdd_l, ↓dSub_i, ↓dMul_i, ↓dMul_l, ↓dMod_i, ↓dDiv_i, ↓dPow_i, ↓dLt_i, ↓dLe_i, ↓dGt_i, ↓dGe_i, ↓uNeg_i, ↓cMax2_i, ↓cMin2_i, ↓cAbs_i, ↓cInt_i, ↓cInt_b, ↓cLen_l, ↓cLen_q, ↓cLen_t, ↓cList_l, ↓cList_q, ↓cList_t, ↓cListO_l, ↓cListO_t, ↓dIx_l, ↓dIx_q, ↓dIx_t, ↓dIx_o', ↓exS, ↓exL, at_1, at_2, at_3, at_4, ix30, ix31, ix32, ↓dSlL_l, ↓dSlL_q, ↓asQ_l, ↓asL_l, at_0, ↓isi_non_int, ↓isi_non_bool, ↓isi_non_str, ↓isi_non_list, ↓isi_non_tuple, ↓isi_non_dict, ↓isi_bl_int, ↓isi_bl_bool, ↓isi_bl_str, ↓isi_bl_list, ↓isi_bl_tuple, ↓isi_bl_dict, ↓isi_int_int, ↓isi_int_bool, ↓isi_int_str, ↓isi_int_list, ↓isi_int_tuple, ↓isi_int_dict, ↓isi_str_int, ↓isi_str_bool, ↓isi_str_str, ↓isi_str_list, ↓isi_str_tuple, ↓isi_str_dict, ↓isi_lst_int, ↓isi_lst_bool, ↓isi_lst_str, ↓isi_lst_list, ↓isi_lst_tuple, ↓isi_lst_dict, ↓isi_sq_int, ↓isi_sq_bool, ↓isi_sq_str, ↓isi_sq_list, ↓isi_sq_tuple, ↓isi_sq_dict, ↓isi_tup_int, ↓isi_tup_bool, ↓isi_tup_str, ↓isi_tup_list, ↓isi_tup_tuple, ↓isi_tup_dict, ↓isi_dic_int, ↓isi_dic_bool, ↓isi_dic_str, ↓isi_dic_list, ↓isi_dic_tuple, ↓isi_dic_dict, if_true, if_false, Bool.not_true, Bool.not_false, true_and, and_true, reduceCtorEq, Bool.true_eq_false, Bool.false_eq_true, ite_true, ite_false, ↓exAny, ↓isLst_l, Int.toNat_natCast, Int.reduceToNat, dVar_e, sPar_e, sPar3_e, sAug_e])))
local macro_rules | `(tactic| walk_at "dls") => `(tactic| ((try simp only [gstart, gwipe, List.set_set, List.map_cons, List.map_nil, List.length_cons, List.length_nil, rep_0, rep_s, List.cons_append, List.nil_append, List.set_cons_zero, List.set_cons_succ, Nat.reduceAdd, Nat.reduceSub, Nat.zero_add, Nat.add_zero]); (try simp only [*, ↓dv0, ↓dv1, ↓dv2, ↓dv3, ↓dv4, ↓dv5, ↓dv6, ↓dv7, ↓dv8, ↓dv9, ↓dv10, ↓dv11, ↓dv12, ↓dv13, ↓dv14, ↓dv15, ↓dv16, ↓dv17, ↓dv18, ↓dv19, ↓dv20, ↓dv21, ↓dv22, ↓dv23, ↓dv24, ↓dv25, ↓dv26, ↓dv27, ↓dv28, ↓dv29, ↓dv30, ↓dv31, ↓dv32, ↓dv33, ↓dv34, ↓dv35, ↓dv36, ↓dv37, ↓dv38, ↓dv39, ↓nm0, ↓nm1, ↓nm2, ↓nm3, ↓nm4, ↓nm5, ↓nm6, ↓nm7, ↓nm8, ↓nm9, ↓nm10, ↓nm11, ↓nm12, ↓nm13, ↓nm14, ↓nm15, ↓nm16, ↓nm17, ↓nm18, ↓nm19, ↓nm20, ↓nm21, ↓nm22, ↓nm23, ↓nm24, ↓nm25, ↓nm26, ↓nm27, ↓nm28, ↓nm29, ↓nm30, ↓nm31, ↓nm32, ↓nm33, ↓nm34, ↓nm35, ↓nm36, ↓nm37, ↓nm38, ↓nm39, ↓sPar_n, ↓sPar3_n, ↓sAug_n, ↓reduceIte, List.set_set, ↓sNext_e, ↓sSeq_e, ↓sBrk_e, ↓sCnt_e, ↓sDrop_e, ↓sRet_e, ↓sRetN_e, ↓sIf_e, ↓sAsg_e, ↓sRaise_e, ↓nmG_e, ↓tupG_e, ↓gsNil_e, ↓gsCons_e, ↓subG_e, ↓dC_e, ↓dOp_e, ↓dUn_e, ↓dChain_e, ↓bOf_e, ↓bAnd_e, ↓bOr_e, ↓bNot_e, ↓bYes_e, ↓dAnd_e, ↓dOr_e, ↓dNot_e, ↓dIf_e, ↓lNil_e, ↓lCons_e, ↓dLst_e, ↓dDic0_e, ↓dDic1_e, ↓dLenSetG_e, dIsB_b, ↓dLstO_e, ↓dTup_e, ↓dCB_e, ↓dCall_e, ↓dCallK_e, ↓oNone_e, ↓oSome_e, ↓dSl_e, ↓dBM_e, ↓dBM0_e, ↓dFz_e, ↓dFz2_e, ↓d2_e, ↓dLone_e, ↓lStar_e, ↓dCallA_e, ↓dMakeA_e, ↓dMakeV_e, ↓dMethA_e, ↓dCMethA_e, ↓dPropA_e, ↓dFld_e, ↓sFldS_e, ↓dFzI_e, ↓fzID_o, ↓dM1_e, ↓dM0_e, ↓dRev_e, ↓mSplit_s, ↓mUpper_s, ↓exStr, ↓exZ, ↓cStrI_i, ↓cIntS_s, ↓iStrD_e, ↓dEqF_s, ↓dNeF_s, ↓dEqF_i, ↓dNeF_i, ↓dSign_s, ↓sRaiseI_e, ↓dXFld_e, ↓mPop_e, ↓dAddO_l, ↓dAddO_o, ↓dMk0_e, ↓sKeep_e, ↓sTryH_e, ↓dCVal_e, ↓dConI_e, ↓cLen_s, ↓dIx_s, ↓dSlS_s, ↓dAdd_s, ↓cTup_l, ↓pkP_e, ↓pkS_e, ↓lstG_e, ↓asI_i, ↓iSeq_e, ↓iTupD_e, ↓iRg1_e, ↓iRg2_e, ↓iZipD_e, ↓iEnumD_e, ↓sFor_e, ↓dLc_e, ↓finF_e, ↓finO_e, ↓fzD_l, ↓fzD_i, ↓fzD_o, ↓fzD2_o, ↓dSetO_e, ↓mAppend_e, ↓mClear_e, ↓mReverse_e, List.map_cons, List.map_nil, List.length_cons, List.length_nil, rep_0, rep_s, List.cons_append, List.nil_append, List.getElem?_cons_zero, List.getElem?_cons_succ, List.set_cons_zero, List.set_cons_succ, Nat.reduceAdd, Nat.reduceSub, Nat.zero_add, Nat.add_zero, ↓exSS, ↓exB, ↓exI, ↓ex1, ↓ex2, ↓ex3, ↓exI1, ↓exI2, ↓exT, ↓exC, ↓exAs, ↓dAdd_i, ↓dAddI_i, ↓dSubI_i, ↓dLRg_e, ↓dIsiT_e, ↓dLenSet_e, ↓bChain3_e, ↓dLRg2_e, ↓iRg3_e, ↓dLc2_e, ↓dSlT_t, ↓dNew_e, ↓sDct_e, ↓dMulO_l, ↓dLRgO_e, ↓dAdd_l, ↓dSub_i, ↓dMul_i, ↓dMul_l, ↓dMod_i, ↓dDiv_i, ↓dPow_i, ↓dLt_i, ↓dLe_i, ↓dGt_i, ↓dGe_i, ↓uNeg_i, ↓cMax2_i, ↓cMin2_i, ↓cAbs_i, ↓cInt_i, ↓cInt_b, ↓cLen_l, ↓cLen_q, ↓cLen_t, ↓cList_l, ↓cList_q, ↓cList_t, ↓cListO_l, ↓cListO_t, ↓dIx_l, ↓dIx_q, ↓dIx_t, ↓dIx_o', ↓exS, ↓exL, at_1, at_2, at_3, at_4, ix30, ix31, ix32, ↓dSlL_l, ↓dSlL_q, ↓asQ_l, ↓asL_l, at_0, ↓isi_non_int, ↓isi_non_bool, ↓isi_non_str, ↓isi_non_list, ↓isi_non_tuple, ↓isi_non_dict, ↓isi_bl_int, ↓isi_bl_bool, ↓isi_bl_str, ↓isi_bl_list, ↓isi_bl_tuple, ↓isi_bl_dict, ↓isi_int_int, ↓isi_int_bool, ↓isi_int_str, ↓isi_int_list, ↓isi_int_tuple, ↓isi_int_dict, ↓isi_str_int, ↓isi_str_bool, ↓isi_str_str, ↓isi_str_list, ↓isi_str_tuple, ↓isi_str_dict, ↓isi_lst_int, ↓isi_lst_bool, ↓isi_lst_str, ↓isi_lst_list, ↓isi_lst_tuple, ↓isi_lst_dict, ↓isi_sq_int, ↓isi_sq_bool, ↓isi_sq_str, ↓isi_sq_list, ↓isi_sq_tuple, ↓isi_sq_dict, ↓isi_tup_int, ↓isi_tup_bool, ↓isi_tup_str, ↓isi_tup_list, ↓isi_tup_tuple, ↓isi_tup_dict, ↓isi_dic_int, ↓isi_dic_bool, ↓isi_dic_str, ↓isi_dic_list, ↓isi_dic_tuple, ↓isi_dic_dict, if_true, if_false, Bool.not_true, Bool.not_false, true_and, and_true, reduceCtorEq, Bool.true_eq_false, Bool.false_eq_true, ite_true, ite_false, ↓exAny, ↓isLst_l, Int.toNat_natCast, Int.reduceToNat, dVar_e, sPar_e, sPar3_e, sAug_e])))
--MD
theorem Fs.mid {S Z S' : Sto} {h n : Nat} {x : Cell} (f : Fs h n (S ++ x :: Z) S') (hl : h < S.length) : S'[S.length]? = some x ∧ ∀ y, Fs h n (S ++ y :: Z) (S'.set S.length y) := by
  obtain ⟨c, q, rfl⟩ := f
  rw [set_app hl]
  have e : S.length = (S.set h c).length := by rw [List.length_set]
  refine ⟨by rw [e]; exact get_at, fun y => ⟨c, q, ?_⟩⟩
  rw [set_app hl]
  conv => lhs; rw [e]
  exact set_at
theorem CellsOk.snoc {t : List Nat} {W : Int} {cs : List (List Int)} (ok : CellsOk t W cs) {x : Nat} {r : List Int} (hr : r.length = x) (hb : ∀ v ∈ r, 0 ≤ v ∧ v < W) : CellsOk (t ++ [x]) W (cs ++ [r]) := by
  have hl := ok.len
  refine ⟨by rw [List.length_append, List.length_append, hl] <;> rfl, fun i => ?_, fun q hq => ?_⟩
  · rw [List.getD_eq_getElem?_getD, List.getD_eq_getElem?_getD]
    by_cases h : i < t.length
    · rw [List.getElem?_append_left (by omega), List.getElem?_append_left h]
      have := ok.row i
      rwa [List.getD_eq_getElem?_getD, List.getD_eq_getElem?_getD] at this
    · rw [List.getElem?_append_right (by omega), List.getElem?_append_right (by omega), hl]
      by_cases h2 : i - t.length = 0
      · rw [h2]; exact hr
      · rw [List.getElem?_eq_none (by simp only [List.length_cons, List.length_nil]; omega), List.getElem?_eq_none (by simp only [List.length_cons, List.length_nil]; omega)]
        rfl
  · rcases List.mem_append.mp hq with hq | hq
    · exact ok.at_ q hq
    · rw [List.mem_singleton.mp hq]; exact hb
theorem p__law_cells : Rets sp__law_cells T__law_cells N__law_cells := by
  rintro _ S Φ Ψ ⟨h, n, t, W, rfl, f, hn, ht, ht2, hW, hW2, q⟩
  unfold T__law_cells
  walk_at "dl"
  refine ⟨small, ?_⟩
  have hl := f.lt
  have f0 : Fs h n (S ++ [.lst []]) (S ++ [.lst []]) := (Fs.refl f).cell _ hl
  refine for_l (fun i Γ S' => ∃ (cs : List (List Int)) (Z : Sto) (o1 o2 o3 : Option D), Γ = [some (.own h), some (natsD t), some (.int W), some (.own S.length), o1, o2, o3] ∧ Fs h (n + 33 * i) (S ++ .lst (cs.map fun r => .lst (r.map D.int)) :: Z) S' ∧ CellsOk (t.take i) W cs) ⟨[], [], _, _, _, rfl, f0, by simp, fun i => by simp, by simp⟩ (fun i Γ' S' hi hp => ?_) fun Γ' S' hp => ?_
  · obtain ⟨cs, Z, o1, o2, o3, rfl, fs, ok⟩ := hp
    rw [List.length_map] at hi
    rw [List.getElem_map]
    have hx := ht2 _ (List.getElem_mem hi)
    obtain ⟨X, hX⟩ : ∃ X : Sto, X = S ++ .lst (cs.map fun r => .lst (r.map D.int)) :: Z := ⟨_, rfl⟩
    rw [← hX] at fs
    have hlX : h < X.length := by rw [hX, List.length_append]; omega
    have eS : S'.length = X.length := fs.len
    walk_at "dl"
    refine ⟨small, by omega, by omega, ?_⟩
    have lt1 : ∀ c : Cell, h < (X ++ [c]).length := fun c => by rw [List.length_append]; omega
    have g0 := fs.cell (.lst []) hlX
    refine for_r0 (fun j Γ S2 => ∃ (r : List Int) (o3 : Option D), Γ = [some (.own h), some (natsD t), some (.int W), some (.own S.length), some (.int (t[i] : Nat)), some (.own X.length), o3] ∧ Fs h (n + 33 * i + 3 * j) (X ++ [.lst (r.map D.int)]) S2 ∧ r.length = j ∧ ∀ v ∈ r, 0 ≤ v ∧ v < W) ⟨[], _, by rw [eS], g0, rfl, by simp⟩ (fun j Γ2 S2 hj hp => ?_) fun Γ2 S2 hp => ?_
    · obtain ⟨r, o3, rfl, fr, hr, hb⟩ := hp
      walk_at "dl"
      obtain ⟨el, _⟩ := fr.last hlX
      refine ⟨isLst_at el, dab_at (fr.at (lt1 _)) (by decide) fun S3 a f3 g3 ha0 ha1 => ?_⟩
      refine dab_at g3 hW (fun S4 b f4 g4 hb0 hb1 => ?_) (by omega) (Int.lt_of_le_of_lt hW2 (by decide))
      walk_at "dl"
      refine ⟨small, dab_at g4 (by decide) fun S5 z f5 g5 hz0 hz1 => ?_⟩
      refine dIx_p (p := fun d => ∃ v : Int, d = .int v) hz0 (by show z < 3; exact hz1) ?_ fun d ⟨v, e⟩ => ?_
      · intro d hd
        simp only [List.mem_cons, List.not_mem_nil, or_false] at hd
        rcases hd with rfl | rfl | rfl <;> exact ⟨_, rfl⟩
      subst e
      walk_at "dl"
      have fz := ((fr.trans f3).trans f4).trans f5
      obtain ⟨el, fl⟩ := fz.last hlX
      refine ⟨hW, _, el, by rw [List.length_map, hr]; have := small (n := 1000); omega, r ++ [v % W], _, rfl, ?_, by rw [List.length_append, hr] <;> rfl, ?_⟩
      · have := fl (.lst (r.map D.int ++ [.int (v % W)]))
        rw [List.map_append]
        exact this.mono (by omega)
      · intro y hy
        rcases List.mem_append.mp hy with hy | hy
        · exact hb y hy
        · rw [List.mem_singleton.mp hy]
          exact ⟨Int.emod_nonneg _ (by omega), Int.emod_lt_of_pos _ hW⟩
    · obtain ⟨r, o3, rfl, fr, hr, hb⟩ := hp
      walk_at "dl"
      obtain ⟨el, fl⟩ := fr.last hlX
      have fg := fl .gone
      rw [hX, List.append_assoc] at fg
      obtain ⟨em, fm⟩ := fg.mid hl
      have fm2 : S2[S.length]? = some (.lst (cs.map fun r => .lst (r.map D.int))) := by
        have z := em
        rw [List.getElem?_set_ne (by rw [List.length_append, List.length_cons]; omega)] at z
        exact z
      rw [hX] at el ⊢
      refine ⟨isLst_at fm2, _, el, _, em, by rw [List.length_map, ok.len, List.length_take]; have := small (n := 1000); omega, cs ++ [r], Z ++ [.gone], _, _, _, rfl, ?_, ?_⟩
      · rw [List.map_append]
        exact (fm _).mono (by omega)
      · rw [List.take_add_one, List.getElem?_eq_getElem hi]
        exact ok.snoc hr hb
  · obtain ⟨cs, Z, o1, o2, o3, rfl, fs, ok⟩ := hp
    rw [List.length_map, List.take_length] at ok
    walk_at "dl"
    obtain ⟨em, fm⟩ := fs.mid hl
    obtain ⟨S1', fs1, e1⟩ := (fm .gone).app hl
    refine ⟨_, em, ?_⟩
    rw [e1]
    exact ret_feed fs1 (by rw [D.low]; exact lowA_map _ _ (fun r => by rw [D.low]; exact lowA_ints _ _) cs) (q _ cs (fs1.mono (by rw [List.length_map]; omega)) ok)
end DL
namespace DL
open PySem PySem.Spec PyProof.Rows L2
local macro_rules | `(tactic| walk_at "dl") => `(tactic| ((try simp only [gstart, gwipe, List.set_set, List.map_cons, List.map_nil, List.length_cons, List.length_nil, rep_0, rep_s, List.cons_append, List.nil_append, List.set_cons_zero, List.set_cons_succ, Nat.reduceAdd, Nat.reduceSub, Nat.zero_add, Nat.add_zero]); (try simp only [↓dv0, ↓dv1, ↓dv2, ↓dv3, ↓dv4, ↓dv5, ↓dv6, ↓dv7, ↓dv8, ↓dv9, ↓dv10, ↓dv11, ↓dv12, ↓dv13, ↓dv14, ↓dv15, ↓dv16, ↓dv17, ↓dv18, ↓dv19, ↓dv20, ↓dv21, ↓dv22, ↓dv23, ↓dv24, ↓dv25, ↓dv26, ↓dv27, ↓dv28, ↓dv29, ↓dv30, ↓dv31, ↓dv32, ↓dv33, ↓dv34, ↓dv35, ↓dv36, ↓dv37, ↓dv38, ↓dv39, ↓nm0, ↓nm1, ↓nm2, ↓nm3, ↓nm4, ↓nm5, ↓nm6, ↓nm7, ↓nm8, ↓nm9, ↓nm10, ↓nm11, ↓nm12, ↓nm13, ↓nm14, ↓nm15, ↓nm16, ↓nm17, ↓nm18, ↓nm19, ↓nm20, ↓nm21, ↓nm22, ↓nm23, ↓nm24, ↓nm25, ↓nm26, ↓nm27, ↓nm28, ↓nm29, ↓nm30, ↓nm31, ↓nm32, ↓nm33, ↓nm34, ↓nm35, ↓nm36, ↓nm37, ↓nm38, ↓nm39, ↓sPar_n, ↓sPar3_n, ↓sAug_n, ↓reduceIte, List.set_set, ↓sNext_e, ↓sSeq_e, ↓sBrk_e, ↓sCnt_e, ↓sDrop_e, ↓sRet_e, ↓sRetN_e, ↓sIf_e, ↓sAsg_e, ↓sRaise_e, ↓nmG_e, ↓tupG_e, ↓gsNil_e, ↓gsCons_e, ↓subG_e, ↓dC_e, ↓dOp_e, ↓dUn_e, ↓dChain_e, ↓bOf_e, ↓bAnd_e, ↓bOr_e, ↓bNot_e, ↓bYes_e, ↓dAnd_e, ↓dOr_e, ↓dNot_e, ↓dIf_e, ↓lNil_e, ↓lCons_e, ↓dLst_e, ↓dDic0_e, ↓dDic1_e, ↓dLenSetG_e, dIsB_b, ↓dLstO_e, ↓dTup_e, ↓dCB_e, ↓dCall_e, ↓dCallK_e, ↓oNone_e, ↓oSome_e, ↓dSl_e, ↓dBM_e, ↓dBM0_e, ↓dFz_e, ↓dFz2_e, ↓d2_e, ↓dLone_e, ↓lStar_e, ↓dCallA_e, ↓dMakeA_e, ↓dMakeV_e, ↓dMethA_e, ↓dCMethA_e, ↓dPropA_e, ↓dFld_e, ↓sFldS_e, ↓dFzI_e, ↓fzID_o, ↓dM1_e, ↓dM0_e, ↓dRev_e, ↓mSplit_s, ↓mUpper_s, ↓exStr, ↓exZ, ↓cStrI_i, ↓cIntS_s, ↓iStrD_e, ↓dEqF_s, ↓dNeF_s, ↓dEqF_i, ↓dNeF_i, ↓dSign_s, ↓sRaiseI_e, ↓dXFld_e, ↓mPop_e, ↓dAddO_l, ↓dAddO_o, ↓dMk0_e, ↓sKeep_e, ↓sTryH_e, ↓dCVal_e, ↓dConI_e, ↓cLen_s, ↓dIx_s, ↓dSlS_s, ↓dAdd_s, ↓cTup_l, ↓pkP_e, ↓pkS_e, ↓lstG_e, ↓asI_i, ↓iSeq_e, ↓iTupD_e, ↓iRg1_e, ↓iRg2_e, ↓iZipD_e, ↓iEnumD_e, ↓sFor_e, ↓dLc_e, ↓finF_e, ↓finO_e, ↓fzD_l, ↓fzD_i, ↓fzD_o, ↓fzD2_o, ↓dSetO_e, ↓mAppend_e, ↓mClear_e, ↓mReverse_e, List.map_cons, List.map_nil, List.length_cons, List.length_nil, rep_0, rep_s, List.cons_append, List.nil_append, List.getElem?_cons_zero, List.getElem?_cons_succ, List.set_cons_zero, List.set_cons_succ, Nat.reduceAdd, Nat.reduceSub, Nat.zero_add, Nat.add_zero, ↓exSS, ↓exB, ↓exI, ↓ex1, ↓ex2, ↓ex3, ↓exI1, ↓exI2, ↓exT, ↓exC, ↓exAs, ↓dAdd_i, ↓dAddI_i, ↓dSubI_i, ↓dLRg_e, ↓dIsiT_e, ↓dLenSet_e, ↓bChain3_e, ↓dLRg2_e, ↓iRg3_e, ↓dLc2_e, ↓dSlT_t, ↓dNew_e, ↓sDct_e, ↓dMulO_l, ↓dLRgO_e, ↓dAdd_l, ↓dSub_i, ↓dMul_i, ↓dMul_l, ↓dMod_i, ↓dDiv_i, ↓dPow_i, ↓dLt_i, ↓dLe_i, ↓dGt_i, ↓dGe_i, ↓uNeg_i, ↓cMax2_i, ↓cMin2_i, ↓cAbs_i, ↓cInt_i, ↓cInt_b, ↓cLen_l, ↓cLen_q, ↓cLen_t, ↓cList_l, ↓cList_q, ↓cList_t, ↓cListO_l, ↓cListO_t, ↓dIx_l, ↓dIx_q, ↓dIx_t, ↓dIx_o', ↓exS, ↓exL, at_1, at_2, at_3, at_4, ix30, ix31, ix32, ↓dSlL_l, ↓dSlL_q, ↓asQ_l, ↓asL_l, at_0, ↓isi_non_int, ↓isi_non_bool, ↓isi_non_str, ↓isi_non_list, ↓isi_non_tuple, ↓isi_non_dict, ↓isi_bl_int, ↓isi_bl_bool, ↓isi_bl_str, ↓isi_bl_list, ↓isi_bl_tuple, ↓isi_bl_dict, ↓isi_int_int, ↓isi_int_bool, ↓isi_int_str, ↓isi_int_list, ↓isi_int_tuple, ↓isi_int_dict, ↓isi_str_int, ↓isi_str_bool, ↓isi_str_str, ↓isi_str_list, ↓isi_str_tuple, ↓isi_str_dict, ↓isi_lst_int, ↓isi_lst_bool, ↓isi_lst_str, ↓isi_lst_list, ↓isi_lst_tuple, ↓isi_lst_dict, ↓isi_sq_int, ↓isi_sq_bool, ↓isi_sq_str, ↓isi_sq_list, ↓isi_sq_tuple, ↓isi_sq_dict, ↓isi_tup_int, ↓isi_tup_bool, ↓isi_tup_str, ↓isi_tup_list, ↓isi_tup_tuple, ↓isi_tup_dict, ↓isi_dic_int, ↓isi_dic_bool, ↓isi_dic_str, ↓isi_dic_list, ↓isi_dic_tuple, ↓isi_dic_dict, if_true, if_false, Bool.not_true, Bool.not_false, true_and, and_true, reduceCtorEq, Bool.true_eq_false, Bool.false_eq_true, ite_true, ite_false, ↓exAny, ↓isLst_l, Int.toNat_natCast, Int.reduceToNat, dVar_e, sPar_e, sPar3_e, sAug_e])))
local macro_rules | `(tactic| walk_at "dls") => `(tactic| ((try simp only [gstart, gwipe, List.set_set, List.map_cons, List.map_nil, List.length_cons, List.length_nil, rep_0, rep_s, List.cons_append, List.nil_append, List.set_cons_zero, List.set_cons_succ, Nat.reduceAdd, Nat.reduceSub, Nat.zero_add, Nat.add_zero]); (try simp only [*, ↓dv0, ↓dv1, ↓dv2, ↓dv3, ↓dv4, ↓dv5, ↓dv6, ↓dv7, ↓dv8, ↓dv9, ↓dv10, ↓dv11, ↓dv12, ↓dv13, ↓dv14, ↓dv15, ↓dv16, ↓dv17, ↓dv18, ↓dv19, ↓dv20, ↓dv21, ↓dv22, ↓dv23, ↓dv24, ↓dv25, ↓dv26, ↓dv27, ↓dv28, ↓dv29, ↓dv30, ↓dv31, ↓dv32, ↓dv33, ↓dv34, ↓dv35, ↓dv36, ↓dv37, ↓dv38, ↓dv39, ↓nm0, ↓nm1, ↓nm2, ↓nm3, ↓nm4, ↓nm5, ↓nm6, ↓nm7, ↓nm8, ↓nm9, ↓nm10, ↓nm11, ↓nm12, ↓nm13, ↓nm14, ↓nm15, ↓nm16, ↓nm17, ↓nm18, ↓nm19, ↓nm20, ↓nm21, ↓nm22, ↓nm23, ↓nm24, ↓nm25, ↓nm26, ↓nm27, ↓nm28, ↓nm29, ↓nm30, ↓nm31, ↓nm32, ↓nm33, ↓nm34, ↓nm35, ↓nm36, ↓nm37, ↓nm38, ↓nm39, ↓sPar_n, ↓sPar3_n, ↓sAug_n, ↓reduceIte, List.set_set, ↓sNext_e, ↓sSeq_e, ↓sBrk_e, ↓sCnt_e, ↓sDrop_e, ↓sRet_e, ↓sRetN_e, ↓sIf_e, ↓sAsg_e, ↓sRaise_e, ↓nmG_e, ↓tupG_e, ↓gsNil_e, ↓gsCons_e, ↓subG_e, ↓dC_e, ↓dOp_e, ↓dUn_e, ↓dChain_e, ↓bOf_e, ↓bAnd_e, ↓bOr_e, ↓bNot_e, ↓bYes_e, ↓dAnd_e, ↓dOr_e, ↓dNot_e, ↓dIf_e, ↓lNil_e, ↓lCons_e, ↓dLst_e, ↓dDic0_e, ↓dDic1_e, ↓dLenSetG_e, dIsB_b, ↓dLstO_e, ↓dTup_e, ↓dCB_e, ↓dCall_e, ↓dCallK_e, ↓oNone_e, ↓oSome_e, ↓dSl_e, ↓dBM_e, ↓dBM0_e, ↓dFz_e, ↓dFz2_e, ↓d2_e, ↓dLone_e, ↓lStar_e, ↓dCallA_e, ↓dMakeA_e, ↓dMakeV_e, ↓dMethA_e, ↓dCMethA_e, ↓dPropA_e, ↓dFld_e, ↓sFldS_e, ↓dFzI_e, ↓fzID_o, ↓dM1_e, ↓dM0_e, ↓dRev_e, ↓mSplit_s, ↓mUpper_s, ↓exStr, ↓exZ, ↓cStrI_i, ↓cIntS_s, ↓iStrD_e, ↓dEqF_s, ↓dNeF_s, ↓dEqF_i, ↓dNeF_i, ↓dSign_s, ↓sRaiseI_e, ↓dXFld_e, ↓mPop_e, ↓dAddO_l, ↓dAddO_o, ↓dMk0_e, ↓sKeep_e, ↓sTryH_e, ↓dCVal_e, ↓dConI_e, ↓cLen_s, ↓dIx_s, ↓dSlS_s, ↓dAdd_s, ↓cTup_l, ↓pkP_e, ↓pkS_e, ↓lstG_e, ↓asI_i, ↓iSeq_e, ↓iTupD_e, ↓iRg1_e, ↓iRg2_e, ↓iZipD_e, ↓iEnumD_e, ↓sFor_e, ↓dLc_e, ↓finF_e, ↓finO_e, ↓fzD_l, ↓fzD_i, ↓fzD_o, ↓fzD2_o, ↓dSetO_e, ↓mAppend_e, ↓mClear_e, ↓mReverse_e, List.map_cons, List.map_nil, List.length_cons, List.length_nil, rep_0, rep_s, List.cons_append, List.nil_append, List.getElem?_cons_zero, List.getElem?_cons_succ, List.set_cons_zero, List.set_cons_succ, Nat.reduceAdd, Nat.reduceSub, Nat.zero_add, Nat.add_zero, ↓exSS, ↓exB, ↓exI, ↓ex1, ↓ex2, ↓ex3, ↓exI1, ↓exI2, ↓exT, ↓exC, ↓exAs, ↓dAdd_i, ↓dAddI_i, ↓dSubI_i, ↓dLRg_e, ↓dIsiT_e, ↓dLenSet_e, ↓bChain3_e, ↓dLRg2_e, ↓iRg3_e, ↓dLc2_e, ↓dSlT_t, ↓dNew_e, ↓sDct_e, ↓dMulO_l, ↓dLRgO_e, ↓dAdd_l, ↓dSub_i, ↓dMul_i, ↓dMul_l, ↓dMod_i, ↓dDiv_i, ↓dPow_i, ↓dLt_i, ↓dLe_i, ↓dGt_i, ↓dGe_i, ↓uNeg_i, ↓cMax2_i, ↓cMin2_i, ↓cAbs_i, ↓cInt_i, ↓cInt_b, ↓cLen_l, ↓cLen_q, ↓cLen_t, ↓cList_l, ↓cList_q, ↓cList_t, ↓cListO_l, ↓cListO_t, ↓dIx_l, ↓dIx_q, ↓dIx_t, ↓dIx_o', ↓exS, ↓exL, at_1, at_2, at_3, at_4, ix30, ix31, ix32, ↓dSlL_l, ↓dSlL_q, ↓asQ_l, ↓asL_l, at_0, ↓isi_non_int, ↓isi_non_bool, ↓isi_non_str, ↓isi_non_list, ↓isi_non_tuple, ↓isi_non_dict, ↓isi_bl_int, ↓isi_bl_bool, ↓isi_bl_str, ↓isi_bl_list, ↓isi_bl_tuple, ↓isi_bl_dict, ↓isi_int_int, ↓isi_int_bool, ↓isi_int_str, ↓isi_int_list, ↓isi_int_tuple, ↓isi_int_dict, ↓isi_str_int, ↓isi_str_bool, ↓isi_str_str, ↓isi_str_list, ↓isi_str_tuple, ↓isi_str_dict, ↓isi_lst_int, ↓isi_lst_bool, ↓isi_lst_str, ↓isi_lst_list, ↓isi_lst_tuple, ↓isi_lst_dict, ↓isi_sq_int, ↓isi_sq_bool, ↓isi_sq_str, ↓isi_sq_list, ↓isi_sq_tuple, ↓isi_sq_dict, ↓isi_tup_int, ↓isi_tup_bool, ↓isi_tup_str, ↓isi_tup_list, ↓isi_tup_tuple, ↓isi_tup_dict, ↓isi_dic_int, ↓isi_dic_bool, ↓isi_dic_str, ↓isi_dic_list, ↓isi_dic_tuple, ↓isi_dic_dict, if_true, if_false, Bool.not_true, Bool.not_false, true_and, and_true, reduceCtorEq, Bool.true_eq_false, Bool.false_eq_true, ite_true, ite_false, ↓exAny, ↓isLst_l, Int.toNat_natCast, Int.reduceToNat, dVar_e, sPar_e, sPar3_e, sAug_e])))
--MD
theorem cut_mid {α : Type} {xs : List α} {i j : Nat} (h : j ≤ xs.length) (hi : i ≤ j) : cutD xs (some (i : Int)) (some (j : Int)) = (xs.drop i).take (j - i) := by
  unfold cutD
  rw [HT.sIx_nat, HT.sIx_nat, Nat.min_eq_left h, Nat.min_eq_left (by omega)]
theorem eqv_nil (ps : List PyData) : PyData.eqv (.list ps) (.list []) = ps.isEmpty := by
  cases ps <;> simp [PyData.eqv, PyData.eqvAll]
theorem dNe_nil {S : Sto} {Φ : KD} {ts : List Nat} (ht : ∀ x ∈ ts, x < 1000) (hl : ts.length ≤ 100) (h : Φ S (.bl (!ts.isEmpty))) : dNe (natsD ts) (.lst []) S Φ := by
  refine ⟨.list (ts.map fun (n : Nat) => PyData.int (n : Int)), .list [], .lst (pyra_map (fun n => .int _) ts), .lst .nil, ?_, ?_, ?_⟩
  · exact (fit_list (n := 0) (m := 4) (l := 100) (fun p hp => by
      obtain ⟨x, hx, rfl⟩ := List.mem_map.mp hp
      exact fit_int (k := 3) (by have := ht x hx; omega)) (by rw [List.length_map]; exact hl)).shaped
  · exact (fit_list (n := 0) (m := 4) (l := 100) (ps := []) (by simp) (by simp)).shaped
  · rw [eqv_nil]
    simpa using h
theorem CellsOk.at2 {t : List Nat} {W : Int} {cs : List (List Int)} (ok : CellsOk t W cs) {i : Nat} (hi : i < t.length) : ∃ (h : i < cs.length), (cs[i]).length = t[i] := by
  have hl := ok.len
  refine ⟨by omega, ?_⟩
  have := ok.row i
  rwa [List.getD_eq_getElem?_getD, List.getD_eq_getElem?_getD, List.getElem?_eq_getElem (by omega), List.getElem?_eq_getElem hi] at this
/-- the greatest of some ints -/
theorem cMax_x {S : Sto} {Φ : KD} {ns : List Int} {lo hi : Int} (h0 : 0 < ns.length) (hb : ∀ x ∈ ns, lo ≤ x ∧ x < hi) (h : ∀ m, lo ≤ m → m < hi → m ∈ ns → (∀ y ∈ ns, y ≤ m) → Φ S (.int m)) : cMax [.lst (ns.map D.int)] S Φ :=
  ⟨ns, rfl, h0, fun m hm hy => h m (hb m hm).1 (hb m hm).2 hm hy⟩
theorem p__law_looks : Rets sp__law_looks T__law_looks N__law_looks := by
  rintro _ S Φ Ψ ⟨h, n, t, cs, W, m, b, rfl, f, hn, ht, ht2, okc, hW2, hm, q⟩
  unfold T__law_looks
  walk_at "dl"
  have hl := f.lt
  have hcl := okc.len
  refine lc_s (ds := enumD (t.map fun (n : Nat) => D.int (n : Int))) (fun i acc S' => S' = S ∧ ∃ sp : List Nat, acc = sp.map (fun (n : Nat) => D.int (n : Int)) ∧ sp.length ≤ i ∧ ((∃ j, j < i ∧ 0 < t.getD j 0) → sp ≠ []) ∧ ∀ s ∈ sp, s < t.length ∧ 0 < t.getD s 0) (by rw [enumD_len, List.length_map]; exact small (by omega)) ⟨rfl, [], rfl, Nat.le_refl _, (fun ⟨j, hj, _⟩ => absurd hj (Nat.not_lt_zero j)), by simp⟩ (fun i acc S' hp => rfl) (fun i acc S' hi hp => ?_) fun acc S' hp => ?_
  · obtain ⟨rfl, sp, rfl, hsl, hne0, hsp⟩ := hp
    rw [enumD_len, List.length_map] at hi
    have ei : (enumD (t.map fun (n : Nat) => D.int (n : Int)))[i]'(by rw [enumD_len, List.length_map]; exact hi) = .tup [.int (i : Int), .int (t[i] : Nat)] := by
      unfold enumD
      simp [List.getD_eq_getElem?_getD, hi]
    rw [ei]
    walk_at "dl"
    by_cases c : 0 < t[i]
    · rw [if_pos (by rw [decide_eq_true_eq]; omega)]
      refine ⟨sp ++ [i], by rw [List.map_append]; rfl, by rw [List.length_append]; simp only [List.length_cons, List.length_nil]; omega, fun _ => by simp, fun s hs => ?_⟩
      rcases List.mem_append.mp hs with hs | hs
      · exact hsp s hs
      · rw [List.mem_singleton.mp hs, List.getD_eq_getElem?_getD, List.getElem?_eq_getElem hi]
        exact ⟨hi, c⟩
    · rw [if_neg (by rw [decide_eq_true_eq]; omega)]
      refine ⟨sp, rfl, by omega, fun ⟨j, hj, hj2⟩ => hne0 ⟨j, ?_, hj2⟩, hsp⟩
      have : j ≠ i := fun e => by
        rw [e, List.getD_eq_getElem?_getD, List.getElem?_eq_getElem hi] at hj2
        exact c hj2
      omega
  · obtain ⟨rfl, sp, rfl, hsl, hne0, hsp⟩ := hp
    rw [enumD_len, List.length_map] at hsl
    walk_at "dl"
    refine ⟨small, small, ?_⟩
    refine dNe_nil (fun x hx => by have := (hsp x hx).1; omega) (by omega) ?_
    walk_at "dl"
    have hk : ∃ k : Nat, (m : Int) * (if (!sp.isEmpty) = true then 1 else 0) = k ∧ k ≤ m ∧ (0 < k → sp ≠ []) ∧ (sp ≠ [] → k = m) := by
      cases sp with
      | nil => exact ⟨0, by simp, by omega, by omega, fun z => absurd rfl z⟩
      | cons s sp => exact ⟨m, by simp, by omega, fun _ => by simp, fun _ => rfl⟩
    obtain ⟨k, ek, hk1, hk2, hk3⟩ := hk
    rw [ek]
    refine ⟨cml (by omega) (by omega), by omega, by omega, ?_⟩
    have f0 : Fs h n (S' ++ [.lst []]) (S' ++ [.lst []]) := (Fs.refl f).cell _ hl
    have lt0 : ∀ c : Cell, h < (S' ++ [c]).length := fun c => by rw [List.length_append]; omega
    obtain ⟨O, hO⟩ : ∃ O : Nat → Gam → Sto → Prop, O = fun i Γ S2 => ∃ (ss : List Sg) (o1 o2 o3 o4 o5 o6 o7 o8 o9 : Option D), Γ = [some (.own h), some (natsD t), some (.lst (cs.map fun r => .lst (r.map D.int))), some (.int m), some (.bl b), some (natsD sp), some (.own S'.length), o1, o2, o3, o4, o5, o6, o7, o8, o9] ∧
      Fs h (n + 100 * i) (S' ++ [.lst (ss.map sgD)]) S2 ∧ ss.length = i ∧ (∀ s ∈ ss, SgOk t s) ∧ (b = false → ∀ s ∈ ss, SeenOk cs s) := ⟨_, rfl⟩
    refine for_r0 O (by rw [hO]; exact ⟨[], _, _, _, _, _, _, _, _, _, rfl, f0, rfl, by simp, by simp⟩) (fun i Γ' S2 hi hp => ?_) fun Γ' S2 hp => ?_
    · rw [hO] at hp
      obtain ⟨ss, o1, o2, o3, o4, o5, o6, o7, o8, o9, rfl, fs, hss, hok, hsn⟩ := hp
      have hne : 0 < sp.length := List.length_pos_iff.mpr (hk2 (by omega))
      walk_at "dl"
      rw [List.length_map]
      refine dab_at (fs.at (lt0 _)) (by omega) fun S3 a f3 g3 ha0 ha1 => ?_
      refine dIx_p (ds := sp.map fun (n : Nat) => D.int (n : Int)) (p := fun d => ∃ s : Nat, d = .int s ∧ s < t.length ∧ 0 < t.getD s 0) ha0 (by rw [List.length_map]; exact ha1) ?_ fun d ⟨s, e, hs, hs2⟩ => ?_
      · intro d hd
        obtain ⟨s, hs, rfl⟩ := List.mem_map.mp hd
        exact ⟨s, rfl, hsp s hs⟩
      subst e
      walk_at "dl"
      have ets : atI (t.map fun (n : Nat) => D.int (n : Int)) (s : Int) = some (.int (t[s] : Nat)) := by rw [at_nat, List.getElem?_map, List.getElem?_eq_getElem hs]; rfl
      have hts : t.getD s 0 = t[s] := by rw [List.getD_eq_getElem?_getD, List.getElem?_eq_getElem hs]; rfl
      rw [hts] at hs2
      refine ⟨_, ets, ?_⟩
      have hts2 := ht2 _ (List.getElem_mem hs)
      refine dab_at g3 (by omega) fun S4 p0 f4 g4 hp0 hp1 => ?_
      refine ⟨small, dab_at g4 (by decide) fun S5 z f5 g5 hz0 hz1 => ?_⟩
      refine dIx_p (p := fun d => ∃ p : Nat, d = .int p ∧ p < t[s]) hz0 (by show z < 2; exact hz1) ?_ fun d ⟨p, e, hp⟩ => ?_
      · intro d hd
        simp only [List.mem_cons, List.not_mem_nil, or_false] at hd
        rcases hd with rfl | rfl
        · exact ⟨0, rfl, hs2⟩
        · exact ⟨p0.toNat, by rw [Int.toNat_of_nonneg hp0], by omega⟩
      subst e
      walk_at "dl"
      refine ⟨small, small, dab_at g5 (by decide) fun S6 y f6 g6 hy0 hy1 => ?_⟩
      refine dIx_p (p := fun d => ∃ u : Nat, d = .int u ∧ u ≤ 60) hy0 (by show y < 4; exact hy1) ?_ fun d ⟨u, e, hu⟩ => ?_
      · intro d hd
        simp only [List.mem_cons, List.not_mem_nil, or_false] at hd
        rcases hd with rfl | rfl | rfl | rfl
        · exact ⟨0, rfl, by omega⟩
        · exact ⟨1, rfl, by omega⟩
        · exact ⟨3, rfl, by omega⟩
        · exact ⟨60, rfl, by omega⟩
      subst e
      refine ⟨_, rfl, by omega, by omega, ?_⟩
      have f36 := (((fs.trans f3).trans f4).trans f5).trans f6
      obtain ⟨J, hJ⟩ : ∃ J : Nat → Gam → Sto → Prop, J = fun j Γ S7 => ∃ (lo hi : Nat) (o4 : Option D), Γ = [some (.own h), some (natsD t), some (.lst (cs.map fun r => .lst (r.map D.int))), some (.int m), some (.bl b), some (natsD sp), some (.own S'.length), some (.int i), some (.int lo), some (.int p), some (.int hi), o4, o6, o7, o8, o9] ∧
        Fs h (n + 100 * i + 4 + j) (S' ++ [.lst (ss.map sgD)]) S7 ∧ lo ≤ hi ∧ hi < t.length ∧ ∀ x, lo ≤ x → x ≤ hi → p < t.getD x 0 := ⟨_, rfl⟩
      refine for_r0 J (by rw [hJ]; exact ⟨s, s, _, rfl, f36, Nat.le_refl _, hs, fun x h1 h2 => by rw [show x = s by omega, hts]; exact hp⟩) (fun j Γ7 S7 hj hq => ?_) fun Γ7 S7 hq => ?_
      · rw [hJ] at hq
        obtain ⟨lo, hi', o4, rfl, f7, hlo, hhi, hin⟩ := hq
        have up : ∀ (E : EdD) (S8 : Sto), Fs h (n + 100 * i + 4 + (j + 1)) (S' ++ [.lst (ss.map sgD)]) S8 → E.nx = J (j + 1) → sJ (sIf (bAnd (bOf (dOp dLt (dOp dAdd (dVar 10) (dC (.int 1))) (dCB cLen (lCons (dVar 1) lNil)))) (bOf (dOp dGt (dOp dIx (dVar 1) (dOp dAdd (dVar 10) (dC (.int 1)))) (dVar 9)))) (sAsg (dOp dAdd (dVar 10) (dC (.int 1))) (nmG 10)) sNext)
            E
            [some (.own h), some (natsD t), some (.lst (cs.map fun r => .lst (r.map D.int))), some (.int m), some (.bl b), some (natsD sp), some (.own S'.length), some (.int i), some (.int lo), some (.int p), some (.int hi'), some (.int j), o6, o7, o8, o9] S8 := fun E S8 f8 eE => by
          rw [sJ_e]
          walk_at "dl"
          rw [eE, hJ]
          rw [List.length_map]
          by_cases c : hi' + 1 < t.length
          · rw [if_pos (by rw [decide_eq_true_eq]; omega), show ((hi' : Int) + 1) = ((hi' + 1 : Nat) : Int) by omega]
            refine ⟨.int (t[hi' + 1] : Nat), by rw [at_nat, List.getElem?_map, List.getElem?_eq_getElem c]; rfl, ?_⟩
            walk_at "dl"
            by_cases c2 : p < t[hi' + 1]
            · rw [if_pos (by rw [decide_eq_true_eq]; omega)]
              refine ⟨lo, hi' + 1, _, rfl, f8, by omega, c, fun x h1 h2 => ?_⟩
              by_cases c3 : x = hi' + 1
              · rw [c3, List.getD_eq_getElem?_getD, List.getElem?_eq_getElem c]; exact c2
              · exact hin x h1 (by omega)
            · rw [if_neg (by rw [decide_eq_true_eq]; omega)]
              exact ⟨lo, hi', _, rfl, f8, hlo, hhi, hin⟩
          · rw [if_neg (by rw [decide_eq_true_eq]; omega)]
            walk_at "dl"
            exact ⟨lo, hi', _, rfl, f8, hlo, hhi, hin⟩
        have lt1 := lt0 (.lst (ss.map sgD))
        walk_at "dl"
        rw [sJ_e]
        walk_at "dl"
        by_cases c : 0 < lo
        · have hl1 : lo - 1 < t.length := by omega
          rw [if_pos (by rw [decide_eq_true_eq]; omega), show ((lo : Int) - 1) = ((lo - 1 : Nat) : Int) by omega]
          refine ⟨.int (t[lo - 1] : Nat), by rw [at_nat, List.getElem?_map, List.getElem?_eq_getElem hl1]; rfl, ?_⟩
          walk_at "dl"
          by_cases c2 : p < t[lo - 1]
          · rw [if_pos (by rw [decide_eq_true_eq]; omega)]
            refine dab_at (f7.at lt1) (by decide) fun S8 z f8 g8 hz0 hz1 => ?_
            walk_at "dl"
            by_cases c3 : z = 0
            · rw [if_pos (by rw [beq_iff_eq]; exact c3), hJ]
              refine ⟨lo - 1, hi', _, rfl, f7.trans f8, by omega, hhi, fun x h1 h2 => ?_⟩
              by_cases c4 : x = lo - 1
              · rw [c4, List.getD_eq_getElem?_getD, List.getElem?_eq_getElem hl1]; exact c2
              · exact hin x (by omega) h2
            · rw [if_neg (by rw [beq_iff_eq]; exact c3)]
              exact up _ _ (f7.trans f8) rfl
          · rw [if_neg (by rw [decide_eq_true_eq]; omega)]
            exact up _ _ (f7.mono (by omega)) rfl
        · rw [if_neg (by rw [decide_eq_true_eq]; omega)]
          exact up _ _ (f7.mono (by omega)) rfl
      · rw [hJ] at hq
        obtain ⟨lo, hi', o4, rfl, f7, hlo, hhi, hin⟩ := hq
        have put : ∀ (S8 : Sto) (v : Int), Fs h (n + 100 * i + 70) (S' ++ [.lst (ss.map sgD)]) S8 → 0 ≤ v → v ≤ MOST → (b = false → SeenOk cs ⟨p, lo, hi', v⟩) → isLst S8 (.own S'.length) ∧ 4 ≤ sizeLine ∧ ∃ xs, S8[S'.length]? = some (.lst xs) ∧ xs.length < sizeLine ∧ O (i + 1)
            [some (.own h), some (natsD t), some (.lst (cs.map fun r => .lst (r.map D.int))), some (.int m), some (.bl b), some (natsD sp), some (.own S'.length), some (.int i), some (.int lo), some (.int p), some (.int hi'), o4, some (.int v), o7, o8, o9] (S8.set S'.length (.lst (xs ++ [.tup [.int p, .int lo, .int hi', .int v]]))) := fun S8 v f8 hv0 hv1 hvs => by
          obtain ⟨el, fl⟩ := f8.last hl
          refine ⟨isLst_at el, small, _, el, by rw [List.length_map, hss]; have := small (n := m) (by omega); omega, ?_⟩
          rw [hO]
          refine ⟨ss ++ [⟨p, lo, hi', v⟩], _, _, _, _, _, _, _, _, _, rfl, ?_, by rw [List.length_append, hss]; rfl, fun x hx => ?_, fun hb x hx => ?_⟩
          · have := fl (.lst (ss.map sgD ++ [sgD ⟨p, lo, hi', v⟩]))
            rw [List.map_append]
            exact this.mono (by omega)
          · rcases List.mem_append.mp hx with hx | hx
            · exact hok x hx
            · rw [List.mem_singleton.mp hx]
              exact ⟨by show p ≤ 10; omega, hlo, hhi, hv0, hv1, hin⟩
          · rcases List.mem_append.mp hx with hx | hx
            · exact hsn hb x hx
            · rw [List.mem_singleton.mp hx]
              exact hvs hb
        walk_at "dl"
        have el : (cutD (cs.map fun r => D.lst (r.map D.int)) (some (lo : Int)) (some ((hi' : Int) + 1))) = (((cs.drop lo).take (hi' + 1 - lo)).map fun r => D.lst (r.map D.int)) := by
          rw [show ((hi' : Int) + 1) = ((hi' + 1 : Nat) : Int) by omega, cut_mid (by rw [List.length_map]; omega) (by omega), ← List.map_drop, ← List.map_take]
        rw [el]
        have ll : ((cs.drop lo).take (hi' + 1 - lo)).length = hi' + 1 - lo := by rw [List.length_take, List.length_drop]; omega
        refine lc_l (fun i acc S9 => S9 = S7 ∧ ∃ vs : List Int, acc = vs.map D.int ∧ vs.length = i ∧ (∀ v ∈ vs, 0 ≤ v ∧ v < W) ∧ vs = (List.range i).map fun j => (cs.getD (lo + j) []).getD p 0) (by rw [List.length_map, ll]; exact small (by omega)) ⟨rfl, [], rfl, rfl, by simp, rfl⟩ (fun i acc S9 hi3 hp9 => ?_) fun acc S9 hp9 => ?_
        · obtain ⟨rfl, vs, rfl, hvl, hvs, hve⟩ := hp9
          rw [List.length_map, ll] at hi3
          have hil : lo + i < cs.length := by omega
          have ei : ((((cs.drop lo).take (hi' + 1 - lo)).map fun r => D.lst (r.map D.int))[i]'(by rw [List.length_map, ll]; exact hi3)) = .lst ((cs[lo + i]).map D.int) := by
            rw [List.getElem_map, List.getElem_take, List.getElem_drop]
          rw [ei]
          walk_at "dl"
          obtain ⟨hx1, hx2⟩ := okc.at2 (i := lo + i) (by omega)
          have hp3 := hin (lo + i) (by omega) (by omega)
          rw [List.getD_eq_getElem?_getD, List.getElem?_eq_getElem (by omega)] at hp3
          have hp4 : p < cs[lo + i].length := by rw [hx2]; exact hp3
          refine ⟨.int (cs[lo + i][p]), by rw [at_nat, List.getElem?_map, List.getElem?_eq_getElem hp4]; rfl, vs ++ [cs[lo + i][p]], by rw [List.map_append]; rfl, by rw [List.length_append, hvl]; rfl, fun v hv => ?_, ?_⟩
          · rcases List.mem_append.mp hv with hv | hv
            · exact hvs v hv
            · rw [List.mem_singleton.mp hv]
              exact okc.at_ _ (List.getElem_mem hil) _ (List.getElem_mem hp4)
          · rw [hve, List.range_succ, List.map_append, List.map_cons, List.map_nil]
            congr 2
            rw [List.getD_eq_getElem?_getD, List.getD_eq_getElem?_getD, List.getElem?_eq_getElem hil, Option.getD_some, List.getElem?_eq_getElem hp4, Option.getD_some]
        · obtain ⟨rfl, vs, rfl, hvl, hvs, hve⟩ := hp9
          rw [List.length_map, ll] at hvl hve
          walk_at "dl"
          refine cMax_x (by omega) hvs fun v hv0 hv1 hvm hvy => ?_
          have seen : SeenOk cs ⟨p, lo, hi', v⟩ := by
            rw [hve] at hvm hvy
            refine ⟨?_, fun j h1 h2 => ?_⟩
            · obtain ⟨j, hj, e⟩ := List.mem_map.mp hvm
              have := List.mem_range.mp hj
              exact ⟨lo + j, Nat.le_add_right _ _, by show lo + j ≤ hi'; omega, e⟩
            · have h1 : lo ≤ j := h1
              have h2 : j ≤ hi' := h2
              exact hvy _ (List.mem_map.mpr ⟨j - lo, List.mem_range.mpr (by omega), by rw [show lo + (j - lo) = j by omega]⟩)
          rw [sJ_e]
          have hu2 : (u : Int).toNat ≤ 60 := by omega
          cases b with
          | false =>
            walk_at "dl"
            have : W ≤ MOST + 1 := hW2
            exact put _ v (f7.mono (by omega)) hv0 (by omega) fun _ => seen
          | true =>
            have hW3 : W ≤ MOST + 0 := hW2
            walk_at "dl"
            refine dab_at (f7.at (lt0 _)) (by decide) fun Sa x1 fa ga hx10 hx11 => ?_
            walk_at "dl"
            by_cases c3 : x1 = 0
            · rw [if_pos (by rw [beq_iff_eq]; exact c3)]
              walk_at "dl"
              refine dab_at ga (by omega) (fun Sb x2 fb gb hx20 hx21 => ?_) (by omega) (Int.lt_of_le_of_lt (b := MOST) (by omega) (by decide))
              walk_at "dl"
              refine ⟨small, dab_at gb (by decide) fun Sd x3 fd gd hx30 hx31 => ?_⟩
              refine dIx_p (p := fun d => ∃ v : Int, d = .int v ∧ 0 ≤ v ∧ v ≤ MOST) hx30 (by show x3 < 3; exact hx31) ?_ fun d ⟨w, e, hw0, hw1⟩ => ?_
              · intro d hd
                simp only [List.mem_cons, List.not_mem_nil, or_false] at hd
                rcases hd with rfl | rfl | rfl
                · refine ⟨_, rfl, ?_, ?_⟩ <;> (repeat' split) <;> omega
                · exact ⟨_, rfl, by omega, by omega⟩
                · exact ⟨_, rfl, hx20, by omega⟩
              subst e
              walk_at "dl"
              exact put _ w ((((f7.trans fa).trans fb).trans fd).mono (by omega)) hw0 hw1 fun z => nomatch z
            · rw [if_neg (by rw [beq_iff_eq]; exact c3)]
              exact put _ v ((f7.trans fa).mono (by omega)) hv0 (by omega) fun z => nomatch z
    · rw [hO] at hp
      obtain ⟨ss, o1, o2, o3, o4, o5, o6, o7, o8, o9, rfl, fs, hss, hok, hsn⟩ := hp
      walk_at "dl"
      obtain ⟨el, fl⟩ := fs.last hl
      obtain ⟨S1', fs1, e1⟩ := (fl .gone).app hl
      refine ⟨_, el, ?_⟩
      rw [e1]
      refine ret_feed fs1 (by rw [D.low]; exact lowA_map _ _ (fun s => rfl) ss) (q _ ss (fs1.mono ?_) (by omega) hok hsn)
      omega
end DL
namespace DL
open PySem PySem.Spec PyProof.Rows L2
local macro_rules | `(tactic| walk_at "dl") => `(tactic| ((try simp only [gstart, gwipe, List.set_set, List.map_cons, List.map_nil, List.length_cons, List.length_nil, rep_0, rep_s, List.cons_append, List.nil_append, List.set_cons_zero, List.set_cons_succ, Nat.reduceAdd, Nat.reduceSub, Nat.zero_add, Nat.add_zero]); (try simp only [↓dv0, ↓dv1, ↓dv2, ↓dv3, ↓dv4, ↓dv5, ↓dv6, ↓dv7, ↓dv8, ↓dv9, ↓dv10, ↓dv11, ↓dv12, ↓dv13, ↓dv14, ↓dv15, ↓dv16, ↓dv17, ↓dv18, ↓dv19, ↓dv20, ↓dv21, ↓dv22, ↓dv23, ↓dv24, ↓dv25, ↓dv26, ↓dv27, ↓dv28, ↓dv29, ↓dv30, ↓dv31, ↓dv32, ↓dv33, ↓dv34, ↓dv35, ↓dv36, ↓dv37, ↓dv38, ↓dv39, ↓nm0, ↓nm1, ↓nm2, ↓nm3, ↓nm4, ↓nm5, ↓nm6, ↓nm7, ↓nm8, ↓nm9, ↓nm10, ↓nm11, ↓nm12, ↓nm13, ↓nm14, ↓nm15, ↓nm16, ↓nm17, ↓nm18, ↓nm19, ↓nm20, ↓nm21, ↓nm22, ↓nm23, ↓nm24, ↓nm25, ↓nm26, ↓nm27, ↓nm28, ↓nm29, ↓nm30, ↓nm31, ↓nm32, ↓nm33, ↓nm34, ↓nm35, ↓nm36, ↓nm37, ↓nm38, ↓nm39, ↓sPar_n, ↓sPar3_n, ↓sAug_n, ↓reduceIte, List.set_set, ↓sNext_e, ↓sSeq_e, ↓sBrk_e, ↓sCnt_e, ↓sDrop_e, ↓sRet_e, ↓sRetN_e, ↓sIf_e, ↓sAsg_e, ↓sRaise_e, ↓nmG_e, ↓tupG_e, ↓gsNil_e, ↓gsCons_e, ↓subG_e, ↓dC_e, ↓dOp_e, ↓dUn_e, ↓dChain_e, ↓bOf_e, ↓bAnd_e, ↓bOr_e, ↓bNot_e, ↓bYes_e, ↓dAnd_e, ↓dOr_e, ↓dNot_e, ↓dIf_e, ↓lNil_e, ↓lCons_e, ↓dLst_e, ↓dDic0_e, ↓dDic1_e, ↓dLenSetG_e, dIsB_b, ↓dLstO_e, ↓dTup_e, ↓dCB_e, ↓dCall_e, ↓dCallK_e, ↓oNone_e, ↓oSome_e, ↓dSl_e, ↓dBM_e, ↓dBM0_e, ↓dFz_e, ↓dFz2_e, ↓d2_e, ↓dLone_e, ↓lStar_e, ↓dCallA_e, ↓dMakeA_e, ↓dMakeV_e, ↓dMethA_e, ↓dCMethA_e, ↓dPropA_e, ↓dFld_e, ↓sFldS_e, ↓dFzI_e, ↓fzID_o, ↓dM1_e, ↓dM0_e, ↓dRev_e, ↓mSplit_s, ↓mUpper_s, ↓exStr, ↓exZ, ↓cStrI_i, ↓cIntS_s, ↓iStrD_e, ↓dEqF_s, ↓dNeF_s, ↓dEqF_i, ↓dNeF_i, ↓dSign_s, ↓sRaiseI_e, ↓dXFld_e, ↓mPop_e, ↓dAddO_l, ↓dAddO_o, ↓dMk0_e, ↓sKeep_e, ↓sTryH_e, ↓dCVal_e, ↓dConI_e, ↓cLen_s, ↓dIx_s, ↓dSlS_s, ↓dAdd_s, ↓cTup_l, ↓pkP_e, ↓pkS_e, ↓lstG_e, ↓asI_i, ↓iSeq_e, ↓iTupD_e, ↓iRg1_e, ↓iRg2_e, ↓iZipD_e, iZrD_e, ↓iEnumD_e, ↓sFor_e, ↓dLc_e, ↓finF_e, ↓finO_e, ↓fzD_l, ↓fzD_i, ↓fzD_o, ↓fzD2_o, ↓dSetO_e, ↓mAppend_e, ↓mClear_e, ↓mReverse_e, List.map_cons, List.map_nil, List.length_cons, List.length_nil, rep_0, rep_s, List.cons_append, List.nil_append, List.getElem?_cons_zero, List.getElem?_cons_succ, List.set_cons_zero, List.set_cons_succ, Nat.reduceAdd, Nat.reduceSub, Nat.zero_add, Nat.add_zero, ↓exSS, ↓exB, ↓exI, ↓ex1, ↓ex2, ↓ex3, ↓exI1, ↓exI2, ↓exT, ↓exC, ↓exAs, ↓dAdd_i, ↓dAddI_i, ↓dSubI_i, ↓dLRg_e, ↓dIsiT_e, ↓dLenSet_e, ↓bChain3_e, ↓dLRg2_e, ↓iRg3_e, ↓dLc2_e, ↓dSlT_t, dAddT_t, ↓dNewK_e, ↓dDis1_e, ↓sDkp_e, ↓dDGet_e, ↓dDGet2_e, ↓dLVals_e, ↓kD_ex_i, ↓dSS_e, ↓dST_e, ↓dSI_e, ↓lsG_e, ↓dMulI_i, ↓dNew_e, ↓sDct_e, ↓dMulO_l, ↓dLRgO_e, ↓dAdd_l, ↓dSub_i, ↓dMul_i, ↓dMul_l, ↓dMod_i, ↓dDiv_i, ↓dPow_i, ↓dLt_i, ↓dLe_i, ↓dGt_i, ↓dGe_i, ↓uNeg_i, ↓cMax2_i, ↓cMin2_i, ↓cAbs_i, ↓cInt_i, ↓cInt_b, ↓cLen_l, ↓cLen_q, ↓cLen_t, ↓cList_l, ↓cList_q, ↓cList_t, ↓cListO_l, ↓cListO_t, ↓dIx_l, ↓dIx_q, ↓dIx_t, ↓dIx_o', ↓exS, ↓exL, at_1, at_2, at_3, at_4, ix30, ix31, ix32, ↓dSlL_l, ↓dSlL_q, ↓asQ_l, ↓asL_l, at_0, ↓isi_non_int, ↓isi_non_bool, ↓isi_non_str, ↓isi_non_list, ↓isi_non_tuple, ↓isi_non_dict, ↓isi_bl_int, ↓isi_bl_bool, ↓isi_bl_str, ↓isi_bl_list, ↓isi_bl_tuple, ↓isi_bl_dict, ↓isi_int_int, ↓isi_int_bool, ↓isi_int_str, ↓isi_int_list, ↓isi_int_tuple, ↓isi_int_dict, ↓isi_str_int, ↓isi_str_bool, ↓isi_str_str, ↓isi_str_list, ↓isi_str_tuple, ↓isi_str_dict, ↓isi_lst_int, ↓isi_lst_bool, ↓isi_lst_str, ↓isi_lst_list, ↓isi_lst_tuple, ↓isi_lst_dict, ↓isi_sq_int, ↓isi_sq_bool, ↓isi_sq_str, ↓isi_sq_list, ↓isi_sq_tuple, ↓isi_sq_dict, ↓isi_tup_int, ↓isi_tup_bool, ↓isi_tup_str, ↓isi_tup_list, ↓isi_tup_tuple, ↓isi_tup_dict, ↓isi_dic_int, ↓isi_dic_bool, ↓isi_dic_str, ↓isi_dic_list, ↓isi_dic_tuple, ↓isi_dic_dict, if_true, if_false, Bool.not_true, Bool.not_false, true_and, and_true, reduceCtorEq, Bool.true_eq_false, Bool.false_eq_true, ite_true, ite_false, ↓exAny, ↓isLst_l, Int.toNat_natCast, Int.reduceToNat, dVar_e, sPar_e, sPar3_e, sAug_e])))
local macro_rules | `(tactic| walk_at "dls") => `(tactic| ((try simp only [gstart, gwipe, List.set_set, List.map_cons, List.map_nil, List.length_cons, List.length_nil, rep_0, rep_s, List.cons_append, List.nil_append, List.set_cons_zero, List.set_cons_succ, Nat.reduceAdd, Nat.reduceSub, Nat.zero_add, Nat.add_zero]); (try simp only [*, ↓dv0, ↓dv1, ↓dv2, ↓dv3, ↓dv4, ↓dv5, ↓dv6, ↓dv7, ↓dv8, ↓dv9, ↓dv10, ↓dv11, ↓dv12, ↓dv13, ↓dv14, ↓dv15, ↓dv16, ↓dv17, ↓dv18, ↓dv19, ↓dv20, ↓dv21, ↓dv22, ↓dv23, ↓dv24, ↓dv25, ↓dv26, ↓dv27, ↓dv28, ↓dv29, ↓dv30, ↓dv31, ↓dv32, ↓dv33, ↓dv34, ↓dv35, ↓dv36, ↓dv37, ↓dv38, ↓dv39, ↓nm0, ↓nm1, ↓nm2, ↓nm3, ↓nm4, ↓nm5, ↓nm6, ↓nm7, ↓nm8, ↓nm9, ↓nm10, ↓nm11, ↓nm12, ↓nm13, ↓nm14, ↓nm15, ↓nm16, ↓nm17, ↓nm18, ↓nm19, ↓nm20, ↓nm21, ↓nm22, ↓nm23, ↓nm24, ↓nm25, ↓nm26, ↓nm27, ↓nm28, ↓nm29, ↓nm30, ↓nm31, ↓nm32, ↓nm33, ↓nm34, ↓nm35, ↓nm36, ↓nm37, ↓nm38, ↓nm39, ↓sPar_n, ↓sPar3_n, ↓sAug_n, ↓reduceIte, List.set_set, ↓sNext_e, ↓sSeq_e, ↓sBrk_e, ↓sCnt_e, ↓sDrop_e, ↓sRet_e, ↓sRetN_e, ↓sIf_e, ↓sAsg_e, ↓sRaise_e, ↓nmG_e, ↓tupG_e, ↓gsNil_e, ↓gsCons_e, ↓subG_e, ↓dC_e, ↓dOp_e, ↓dUn_e, ↓dChain_e, ↓bOf_e, ↓bAnd_e, ↓bOr_e, ↓bNot_e, ↓bYes_e, ↓dAnd_e, ↓dOr_e, ↓dNot_e, ↓dIf_e, ↓lNil_e, ↓lCons_e, ↓dLst_e, ↓dDic0_e, ↓dDic1_e, ↓dLenSetG_e, dIsB_b, ↓dLstO_e, ↓dTup_e, ↓dCB_e, ↓dCall_e, ↓dCallK_e, ↓oNone_e, ↓oSome_e, ↓dSl_e, ↓dBM_e, ↓dBM0_e, ↓dFz_e, ↓dFz2_e, ↓d2_e, ↓dLone_e, ↓lStar_e, ↓dCallA_e, ↓dMakeA_e, ↓dMakeV_e, ↓dMethA_e, ↓dCMethA_e, ↓dPropA_e, ↓dFld_e, ↓sFldS_e, ↓dFzI_e, ↓fzID_o, ↓dM1_e, ↓dM0_e, ↓dRev_e, ↓mSplit_s, ↓mUpper_s, ↓exStr, ↓exZ, ↓cStrI_i, ↓cIntS_s, ↓iStrD_e, ↓dEqF_s, ↓dNeF_s, ↓dEqF_i, ↓dNeF_i, ↓dSign_s, ↓sRaiseI_e, ↓dXFld_e, ↓mPop_e, ↓dAddO_l, ↓dAddO_o, ↓dMk0_e, ↓sKeep_e, ↓sTryH_e, ↓dCVal_e, ↓dConI_e, ↓cLen_s, ↓dIx_s, ↓dSlS_s, ↓dAdd_s, ↓cTup_l, ↓pkP_e, ↓pkS_e, ↓lstG_e, ↓asI_i, ↓iSeq_e, ↓iTupD_e, ↓iRg1_e, ↓iRg2_e, ↓iZipD_e, iZrD_e, ↓iEnumD_e, ↓sFor_e, ↓dLc_e, ↓finF_e, ↓finO_e, ↓fzD_l, ↓fzD_i, ↓fzD_o, ↓fzD2_o, ↓dSetO_e, ↓mAppend_e, ↓mClear_e, ↓mReverse_e, List.map_cons, List.map_nil, List.length_cons, List.length_nil, rep_0, rep_s, List.cons_append, List.nil_append, List.getElem?_cons_zero, List.getElem?_cons_succ, List.set_cons_zero, List.set_cons_succ, Nat.reduceAdd, Nat.reduceSub, Nat.zero_add, Nat.add_zero, ↓exSS, ↓exB, ↓exI, ↓ex1, ↓ex2, ↓ex3, ↓exI1, ↓exI2, ↓exT, ↓exC, ↓exAs, ↓dAdd_i, ↓dAddI_i, ↓dSubI_i, ↓dLRg_e, ↓dIsiT_e, ↓dLenSet_e, ↓bChain3_e, ↓dLRg2_e, ↓iRg3_e, ↓dLc2_e, ↓dSlT_t, dAddT_t, ↓dNewK_e, ↓dDis1_e, ↓sDkp_e, ↓dDGet_e, ↓dDGet2_e, ↓dLVals_e, ↓kD_ex_i, ↓dSS_e, ↓dST_e, ↓dSI_e, ↓lsG_e, ↓dMulI_i, ↓dNew_e, ↓sDct_e, ↓dMulO_l, ↓dLRgO_e, ↓dAdd_l, ↓dSub_i, ↓dMul_i, ↓dMul_l, ↓dMod_i, ↓dDiv_i, ↓dPow_i, ↓dLt_i, ↓dLe_i, ↓dGt_i, ↓dGe_i, ↓uNeg_i, ↓cMax2_i, ↓cMin2_i, ↓cAbs_i, ↓cInt_i, ↓cInt_b, ↓cLen_l, ↓cLen_q, ↓cLen_t, ↓cList_l, ↓cList_q, ↓cList_t, ↓cListO_l, ↓cListO_t, ↓dIx_l, ↓dIx_q, ↓dIx_t, ↓dIx_o', ↓exS, ↓exL, at_1, at_2, at_3, at_4, ix30, ix31, ix32, ↓dSlL_l, ↓dSlL_q, ↓asQ_l, ↓asL_l, at_0, ↓isi_non_int, ↓isi_non_bool, ↓isi_non_str, ↓isi_non_list, ↓isi_non_tuple, ↓isi_non_dict, ↓isi_bl_int, ↓isi_bl_bool, ↓isi_bl_str, ↓isi_bl_list, ↓isi_bl_tuple, ↓isi_bl_dict, ↓isi_int_int, ↓isi_int_bool, ↓isi_int_str, ↓isi_int_list, ↓isi_int_tuple, ↓isi_int_dict, ↓isi_str_int, ↓isi_str_bool, ↓isi_str_str, ↓isi_str_list, ↓isi_str_tuple, ↓isi_str_dict, ↓isi_lst_int, ↓isi_lst_bool, ↓isi_lst_str, ↓isi_lst_list, ↓isi_lst_tuple, ↓isi_lst_dict, ↓isi_sq_int, ↓isi_sq_bool, ↓isi_sq_str, ↓isi_sq_list, ↓isi_sq_tuple, ↓isi_sq_dict, ↓isi_tup_int, ↓isi_tup_bool, ↓isi_tup_str, ↓isi_tup_list, ↓isi_tup_tuple, ↓isi_tup_dict, ↓isi_dic_int, ↓isi_dic_bool, ↓isi_dic_str, ↓isi_dic_list, ↓isi_dic_tuple, ↓isi_dic_dict, if_true, if_false, Bool.not_true, Bool.not_false, true_and, and_true, reduceCtorEq, Bool.true_eq_false, Bool.false_eq_true, ite_true, ite_false, ↓exAny, ↓isLst_l, Int.toNat_natCast, Int.reduceToNat, dVar_e, sPar_e, sPar3_e, sAug_e])))
--MI
theorem asI_app {S T : Sto} {d : D} {C : Addr} {fs : List (Str × D)} (e : asI S d = some (C, fs)) : asI (S ++ T) d = some (C, fs) := by
  cases d with
  | ins C' fs' => exact e
  | own h =>
    have e : (match S[h]? with | some (.ins C fs) => some (C, fs) | _ => none) = some (C, fs) := e
    split at e
    · cases e
      exact asI_own (get_app (by assumption))
    · cases e
  | _ => cases e
theorem inB_of {v lo hi : Int} (h : lo ≤ v) (h2 : v ≤ hi) : inB v lo hi = true := by
  unfold inB
  rw [decide_eq_true h, decide_eq_true h2]
  rfl
theorem p_is_whole : Rets sp_is_whole T_is_whole N_is_whole := by
  rintro _ S Φ Ψ ⟨v, lo, hi, rfl, h⟩
  unfold T_is_whole
  walk_at "dl"
  unfold inB at h
  by_cases c : lo ≤ v
  · rw [decide_eq_true c] at h ⊢
    exact ret_now h
  · rw [decide_eq_false c] at h ⊢
    exact ret_now h
theorem all_yes {α : Type} {S : Sto} {Φ : KD} (xs : List α) (h : Φ S (.bl true)) : cAll [.lst (xs.map fun _ => .bl true)] S Φ :=
  ⟨xs.map fun _ => true, by rw [List.map_map]; rfl, by rw [all_true]; exact h⟩
theorem asL_ins {S : Sto} {h : Nat} {C : Addr} {fs gs : List (Str × D)} {d : D} {ds : List D} (eh : S[h]? = some (.ins C fs)) (e : asL S d = some ds) : asL (S.set h (.ins C gs)) d = some ds := by
  rcases asL_cases e with rfl | ⟨k, rfl, ek⟩
  · rfl
  · refine asL_at' ?_
    rw [List.getElem?_set_ne, ek]
    rintro rfl
    rw [eh] at ek
    cases ek
theorem p_are_tabs : Rets sp_are_tabs T_are_tabs N_are_tabs := by
  rintro _ S Φ Ψ ⟨d, t, rfl, ed, ok, h⟩
  unfold T_are_tabs
  have h1 := ok.lo
  have h2 := ok.hi
  walk_at "dl"
  rw [cIsi_of (tyOf_L ed)]
  walk_at "dl"
  rw [cLen_L ed, List.length_map]
  walk_at "dl"
  rw [if_neg (show ¬(!isTyB "list" "list") = true by decide), if_pos (by rw [decide_eq_true_eq]; omega), if_neg (by rw [Bool.not_eq_true', decide_eq_false_iff_not]; omega)]
  refine ⟨⟨_, asQ_L ed⟩, lc_mapS t _ (fun _ => .bl true) (asQ_L ed) (small (by omega)) (fun x hx R hR => ?_) ?_⟩
  · walk_at "dl"
    have := ok.at_ x hx
    exact ⟨_, _, _, rfl, by rw [inB_of (by omega) (by omega)]; exact hR⟩
  · walk_at "dl"
    exact all_yes t (ret_now h)
theorem p_is_sight : Rets sp_is_sight T_is_sight N_is_sight := by
  rintro _ S Φ Ψ ⟨d, t, s, rfl, ed, ok, hl, h⟩
  unfold T_is_sight
  have h1 := ok.c
  have h2 := ok.fl
  have h3 := ok.l
  have h4 := ok.w0
  have h5 := ok.w1
  walk_at "dl"
  rw [dNe_i]
  refine ⟨false, rfl, ?_⟩
  rw [if_neg (by decide)]
  refine ⟨_, _, _, rfl, ?_⟩
  rw [inB_of (by omega) (by omega)]
  walk_at "dl"
  refine ⟨_, _, _, rfl, ?_⟩
  rw [inB_of h4 h5]
  walk_at "dl"
  rw [cLen_L ed, List.length_map]
  walk_at "dl"
  refine ⟨_, _, _, rfl, ?_⟩
  rw [inB_of (by omega) (by omega)]
  walk_at "dl"
  rw [cLen_L ed, List.length_map]
  walk_at "dl"
  refine ⟨_, _, _, rfl, ?_⟩
  rw [inB_of (by omega) (by omega)]
  walk_at "dl"
  rw [dSlL_L ed, show ((s.l : Int) + 1) = ((s.l + 1 : Nat) : Int) by omega, cut_mid (by rw [List.length_map]; omega) (by omega), ← List.map_drop, ← List.map_take]
  walk_at "dl"
  have ll : ((t.drop s.f).take (s.l + 1 - s.f)).length = s.l + 1 - s.f := by rw [List.length_take, List.length_drop]; omega
  refine lc_map _ _ (fun _ => .bl true) (small (by omega)) (fun x hx R hR => ?_) ?_
  · walk_at "dl"
    obtain ⟨i, hi, rfl⟩ := List.getElem_of_mem hx
    rw [ll] at hi
    rw [List.getElem_take, List.getElem_drop]
    have := ok.has (s.f + i) (by omega) (by omega)
    rw [List.getD_eq_getElem?_getD, List.getElem?_eq_getElem (by omega)] at this
    rw [decide_eq_true (show ((t[s.f + i] : Nat) : Int) > s.c by have : s.c < t[s.f + i] := this; omega)]
    exact hR
  · walk_at "dl"
    exact all_yes _ (ret_now h)
theorem p_are_sights : Rets sp_are_sights T_are_sights N_are_sights := by
  rintro _ S Φ Ψ ⟨d, e, t, ss, rfl, ed, ht, ee, ok, h⟩
  unfold T_are_sights
  have h1 := ok.hi
  walk_at "dl"
  rw [cIsi_of (tyOf_L ee)]
  walk_at "dl"
  rw [cLen_L ee, List.length_map]
  walk_at "dl"
  rw [if_neg (show ¬(!isTyB "list" "list") = true by decide), if_neg (by rw [decide_eq_true_eq]; omega)]
  refine ⟨⟨_, asQ_L ee⟩, lc_mapS ss _ (fun _ => .bl true) (asQ_L ee) (small (by omega)) (fun x hx R hR => ?_) ?_⟩
  · walk_at "dl"
    exact ⟨_, _, _, rfl, ed, ok.at_ x hx, ht, hR⟩
  · walk_at "dl"
    exact all_yes ss (ret_now h)
theorem p_Sights___init__ (C C2 C3 : Addr) : Rets (sp_Sights___init__ C3) (T_Sights___init__ C C2 C3) N_Sights___init__ := by
  rintro _ S Φ Ψ ⟨h, d, e, t, ss, rfl, eh, ed, ok, ee, oks, q⟩
  unfold T_Sights___init__
  walk_at "dl"
  refine ⟨_, _, rfl, ed, ok, ?_⟩
  walk_at "dl"
  refine ⟨_, _, _, _, rfl, ed, ok.hi, ee, oks, ?_⟩
  walk_at "dl"
  rw [cList_L ed]
  have es : ∀ c, (S.set h c)[h]? = some c := fun c => List.getElem?_set_self (List.getElem?_eq_some_iff.mp eh).1
  refine ⟨h, [], rfl, eh, by decide, ?_⟩
  rw [cList_L (asL_ins eh ee)]
  refine ⟨h, _, rfl, es _, by show (1 : Nat) < 1000; decide, ?_⟩
  rw [List.set_set]
  exact ret_now q
theorem p_contains : Rets sp_contains T_contains N_contains := by
  rintro _ S Φ Ψ ⟨s, i, c, rfl, h⟩
  unfold T_contains
  dsimp only [sgD]
  walk_at "dl"
  unfold hasB at h
  by_cases c1 : (s.c : Int) = c
  · rw [decide_eq_true c1, Bool.true_and] at h
    rw [if_pos (by rw [beq_iff_eq]; exact c1)]
    by_cases c2 : (s.f : Int) ≤ i
    · rw [decide_eq_true c2, Bool.true_and] at h
      rw [if_pos (by rw [decide_eq_true_eq]; exact c2)]
      exact ret_now h
    · rw [decide_eq_false c2, Bool.false_and] at h
      rw [if_neg (by rw [decide_eq_true_eq]; exact c2)]
      exact ret_now h
  · rw [decide_eq_false c1, Bool.false_and] at h
    rw [if_neg (by rw [beq_iff_eq]; exact c1)]
    exact ret_now h
theorem p__law_inside : Rets sp__law_inside T__law_inside N__law_inside := by
  rintro _ S Φ Ψ ⟨s, i, c, rfl, h⟩
  unfold T__law_inside
  dsimp only [sgD]
  walk_at "dl"
  unfold hasB at h
  by_cases c1 : (s.c : Int) = c
  · rw [decide_eq_true c1, Bool.true_and] at h
    rw [if_pos (by rw [beq_iff_eq]; exact c1)]
    by_cases c2 : (s.f : Int) ≤ i
    · rw [decide_eq_true c2, Bool.true_and] at h
      rw [if_pos (by rw [decide_eq_true_eq]; exact c2)]
      exact ret_now h
    · rw [decide_eq_false c2, Bool.false_and] at h
      rw [if_neg (by rw [decide_eq_true_eq]; exact c2)]
      exact ret_now h
  · rw [decide_eq_false c1, Bool.false_and] at h
    rw [if_neg (by rw [beq_iff_eq]; exact c1)]
    exact ret_now h
theorem mid_get {S cs Z : Sto} {i : Nat} (h : i < cs.length) : (S ++ cs ++ Z)[S.length + i]? = some cs[i] := by
  rw [List.getElem?_append_left (by rw [List.length_append]; omega), List.getElem?_append_right (by omega), Nat.add_sub_cancel_left, List.getElem?_eq_getElem h]
theorem mid_set {S cs Z : Sto} {i : Nat} {c : Cell} (h : i < cs.length) : (S ++ cs ++ Z).set (S.length + i) c = S ++ cs.set i c ++ Z := by
  rw [List.set_append_left _ _ (by rw [List.length_append]; omega), List.set_append_right _ _ (by omega), Nat.add_sub_cancel_left]
theorem best_snoc (ss : List Sg) (s : Sg) (i c : Nat) : bestF (ss ++ [s]) i c = bestS i c (bestF ss i c) s := by
  unfold bestF
  rw [List.foldl_append]
  rfl
theorem best_no {ss : List Sg} {s : Sg} {i c : Nat} (h : hasB s i c = false) : bestF (ss ++ [s]) i c = bestF ss i c := by
  rw [best_snoc]
  unfold bestS
  rw [h]
  rfl
theorem hasB_iff {s : Sg} {i c : Nat} : hasB s i c = true ↔ s.c = c ∧ s.f ≤ i ∧ i ≤ s.l := by
  unfold hasB
  rw [Bool.and_eq_true, Bool.and_eq_true, decide_eq_true_eq, decide_eq_true_eq, decide_eq_true_eq]
  omega
theorem hasB_no {s : Sg} {i c : Nat} (h : ¬ (s.c = c ∧ s.f ≤ i ∧ i ≤ s.l)) : hasB s i c = false := by
  rw [← Bool.not_eq_true, hasB_iff]
  exact h
theorem rowF_len (ss : List Sg) (n i : Nat) : (rowF ss n i).length = n := by
  unfold rowF
  rw [List.length_map, List.length_range]
theorem rowF_same {A : List Sg} {s : Sg} {n i : Nat} (h : ¬ (s.f ≤ i ∧ i ≤ s.l)) : rowF (A ++ [s]) n i = rowF A n i := by
  unfold rowF
  exact List.map_congr_left fun c _ => by rw [best_no (hasB_no fun z => h z.2)]
theorem rowF_get {A : List Sg} {n i c : Nat} (h : c < n) : (rowF A n i)[c]? = some (optD (bestF A i c)) := by
  unfold rowF
  rw [List.getElem?_map, List.getElem?_range h]
  rfl
theorem rowF_set {A : List Sg} {s : Sg} {n i : Nat} (h : s.f ≤ i ∧ i ≤ s.l) (hc : s.c < n) : (rowF A n i).set s.c (optD (bestS i s.c (bestF A i s.c) s)) = rowF (A ++ [s]) n i := by
  apply List.ext_getElem?
  intro c
  by_cases hn : c < n
  · rw [rowF_get hn, best_snoc]
    by_cases e : s.c = c
    · subst e
      rw [List.getElem?_set_self (by rw [rowF_len]; exact hn)]
    · rw [List.getElem?_set_ne e, rowF_get hn]
      unfold bestS
      rw [hasB_no (fun z => e z.1)]
      rfl
  · rw [List.getElem?_eq_none (by rw [List.length_set, rowF_len]; omega), List.getElem?_eq_none (by rw [rowF_len]; omega)]
/-- half way through the lines of a sight -/
def rowsM (t : List Nat) (A B : List Sg) (k : Nat) : List (List D) := (List.range t.length).map fun i => rowF (if i < k then B else A) (t.getD i 0) i
theorem rowsM_len (t : List Nat) (A B : List Sg) (k : Nat) : (rowsM t A B k).length = t.length := by
  unfold rowsM
  rw [List.length_map, List.length_range]
theorem rowsM_get {t : List Nat} {A B : List Sg} {k i : Nat} (h : i < t.length) : (rowsM t A B k)[i]? = some (rowF (if i < k then B else A) (t.getD i 0) i) := by
  unfold rowsM
  rw [List.getElem?_map, List.getElem?_range h]
  rfl
theorem rowsM_first {t : List Nat} {A : List Sg} {s : Sg} {k : Nat} (h : k ≤ s.f) : rowsM t A (A ++ [s]) k = rowsF t A := by
  unfold rowsM rowsF
  exact List.map_congr_left fun i _ => by
    split
    · exact rowF_same (by omega)
    · rfl
theorem rowsM_last {t : List Nat} {A : List Sg} {s : Sg} : rowsM t A (A ++ [s]) (s.l + 1) = rowsF t (A ++ [s]) := by
  unfold rowsM rowsF
  exact List.map_congr_left fun i _ => by
    split
    · rfl
    · exact (rowF_same (by omega)).symm
theorem rowsM_step {t : List Nat} {A B : List Sg} {k : Nat} (h : k < t.length) : (rowsM t A B k).set k (rowF B (t.getD k 0) k) = rowsM t A B (k + 1) := by
  apply List.ext_getElem?
  intro i
  by_cases hi : i < t.length
  · rw [rowsM_get hi]
    by_cases e : k = i
    · subst e
      rw [List.getElem?_set_self (by rw [rowsM_len]; exact h), if_pos (by omega)]
    · rw [List.getElem?_set_ne e, rowsM_get hi]
      congr 2
      by_cases c : i < k
      · rw [if_pos c, if_pos (by omega)]
      · rw [if_neg c, if_neg (by omega)]
  · rw [List.getElem?_eq_none (by rw [List.length_set, rowsM_len]; omega), List.getElem?_eq_none (by rw [rowsM_len]; omega)]
theorem ownsN_len (a n : Nat) : (ownsN a n).length = n := by
  unfold ownsN
  rw [List.length_map, List.length_range]
theorem ownsN_get {a n i : Nat} (h : i < n) : (ownsN a n)[i]? = some (.own (a + i)) := by
  unfold ownsN
  rw [List.getElem?_map, List.getElem?_range h]
  rfl
theorem ownsN_succ (a n : Nat) : ownsN a (n + 1) = ownsN a n ++ [.own (a + n)] := by
  unfold ownsN
  rw [List.range_succ, List.map_append]
  rfl
theorem rows_nil (t : List Nat) : rowsF t [] = t.map fun n => List.replicate n D.non := by
  apply List.ext_getElem?
  intro i
  unfold rowsF
  rw [List.getElem?_map, List.getElem?_map]
  by_cases hi : i < t.length
  · rw [List.getElem?_range hi, List.getElem?_eq_getElem hi, Option.map_some, Option.map_some, List.getD_eq_getElem?_getD, List.getElem?_eq_getElem hi, Option.getD_some]
    congr 1
    unfold rowF
    rw [List.eq_replicate_iff]
    exact ⟨by rw [List.length_map, List.length_range], fun b hb => by
      obtain ⟨c, _, rfl⟩ := List.mem_map.mp hb
      rfl⟩
  · rw [List.getElem?_eq_none (by rw [List.length_range]; omega), List.getElem?_eq_none (by omega)]
    rfl
theorem p_Sights_least_widths (C : Addr) : Rets (sp_Sights_least_widths C) (T_Sights_least_widths C) N_Sights_least_widths := by
  rintro _ S Φ Ψ ⟨d, t, ss, rfl, e, ok, oks, q⟩
  unfold T_Sights_least_widths
  have h60 := ok.hi
  walk_at "dl"
  refine ⟨_, e, _, rfl, ⟨_, rfl⟩, lc_s (ds := t.map fun (n : Nat) => D.int (n : Int)) (fun i acc S' => S' = S ++ (t.take i).map (fun n => Cell.lst (List.replicate n D.non)) ∧ acc = ownsN S.length i) (small (by rw [List.length_map]; omega)) ⟨by simp, rfl⟩ (fun i acc S' hp => rfl) (fun i acc S' hi hp => ?_) fun acc S' hp => ?_⟩
  · obtain ⟨rfl, rfl⟩ := hp
    rw [List.length_map] at hi
    rw [List.getElem_map]
    walk_at "dl"
    have h11 := ok.at_ _ (List.getElem_mem hi)
    have hl : (S ++ (t.take i).map (fun n => Cell.lst (List.replicate n D.non))).length = S.length + i := by
      rw [List.length_append, List.length_map, List.length_take]
      omega
    rw [hl, rep_flat, ownsN_succ]
    refine ⟨small (by decide), by omega, by omega, ?_, rfl⟩
    rw [List.take_succ_eq_append_getElem hi, List.map_append, List.append_assoc]
    rfl
  · obtain ⟨rfl, rfl⟩ := hp
    rw [List.length_map, List.take_length]
    rw [finO_e]
    have er0 : S ++ t.map (fun n => Cell.lst (List.replicate n D.non)) = S ++ (rowsF t (ss.take 0)).map Cell.lst := by
      rw [List.take_zero, rows_nil, List.map_map]
      rfl
    have hl : (S ++ t.map (fun n => Cell.lst (List.replicate n D.non))).length = S.length + t.length := by rw [List.length_append, List.length_map]
    rw [hl, er0]
    refine ⟨_, asI_app (asI_app e), _, rfl, ⟨_, rfl⟩, ?_⟩
    refine for_l (ds := ss.map sgD) (fun k Γ S' => S' = S ++ (rowsF t (ss.take k)).map Cell.lst ++ [.lst (ownsN S.length t.length)] ∧ ∃ a1 a2 a3 a4 a5 a6, Γ = [some d, some (.own (S.length + t.length)), a1, a2, a3, a4, a5, a6]) ⟨rfl, _, _, _, _, _, _, rfl⟩ (fun k Γ' S' hk hp => ?_) fun Γ' S' hp => ?_
    · obtain ⟨rfl, a1, a2, a3, a4, a5, a6, rfl⟩ := hp
      rw [List.length_map] at hk
      rw [List.getElem_map]
      have so := oks.at_ _ (List.getElem_mem hk)
      have ek : ss.take (k + 1) = ss.take k ++ [ss[k]] := List.take_succ_eq_append_getElem hk
      rw [ek]
      generalize ss[k] = s at so ⊢
      generalize ss.take k = A at ⊢
      obtain ⟨sc, sf, sl, sw⟩ := s
      have b1 : sf ≤ sl := so.fl
      have b2 : sl < t.length := so.l
      have b3 : ∀ i, sf ≤ i → i ≤ sl → sc < t.getD i 0 := so.has
      dsimp only [sgD]
      walk_at "dl"
      have rl : ((rowsF t A).map Cell.lst).length = t.length := by rw [List.length_map]; unfold rowsF; rw [List.length_map, List.length_range]
      have top : ∀ cs : Sto, cs.length = t.length → (S ++ cs ++ [Cell.lst (ownsN S.length t.length)])[S.length + t.length]? = some (.lst (ownsN S.length t.length)) := fun cs hc => by
        rw [List.getElem?_append_right (by rw [List.length_append]; omega), List.length_append, hc, Nat.sub_self]
        rfl
      rw [dSlL_L (asL_at' (top _ rl))]
      have b4 : sl + 1 ≤ (ownsN S.length t.length).length := by rw [ownsN_len]; omega
      rw [show ((sl : Int) + 1) = ((sl + 1 : Nat) : Int) from rfl, cut_mid b4 (by omega)]
      refine ⟨⟨_, rfl⟩, ?_⟩
      have ll : (((ownsN S.length t.length).drop sf).take (sl + 1 - sf)).length = sl + 1 - sf := by
        rw [List.length_take, List.length_drop, ownsN_len]
        omega
      refine for_l (fun j Γ S' => S' = S ++ (rowsM t A (A ++ [⟨sc, sf, sl, sw⟩]) (sf + j)).map Cell.lst ++ [.lst (ownsN S.length t.length)] ∧ ∃ o, Γ = [some d, some (.own (S.length + t.length)), some (.int sc), some (.int sf), some (.int sl), some (.int sw), o, a6]) ⟨?_, _, rfl⟩ (fun j Γ2 S2 hj hp => ?_) fun Γ2 S2 hp => ?_
      · rw [Nat.add_zero, rowsM_first (Nat.le_refl _)]
      · obtain ⟨rfl, o, rfl⟩ := hp
        rw [ll] at hj
        have ej : (((ownsN S.length t.length).drop sf).take (sl + 1 - sf))[j]'(by rw [ll]; exact hj) = .own (S.length + (sf + j)) := by
          rw [List.getElem_take, List.getElem_drop]
          have := ownsN_get (a := S.length) (n := t.length) (i := sf + j) (by omega)
          rw [List.getElem?_eq_getElem (by rw [ownsN_len]; omega)] at this
          exact Option.some.inj this
        rw [ej]
        have hi : sf + j < t.length := by omega
        have ml : ((rowsM t A (A ++ [⟨sc, sf, sl, sw⟩]) (sf + j)).map Cell.lst).length = t.length := by rw [List.length_map, rowsM_len]
        have row : (S ++ (rowsM t A (A ++ [⟨sc, sf, sl, sw⟩]) (sf + j)).map Cell.lst ++ [Cell.lst (ownsN S.length t.length)])[S.length + (sf + j)]? = some (.lst (rowF A (t.getD (sf + j) 0) (sf + j))) := by
          rw [mid_get (by omega)]
          have := rowsM_get (t := t) (A := A) (B := A ++ [⟨sc, sf, sl, sw⟩]) (k := sf + j) hi
          rw [if_neg (Nat.lt_irrefl _)] at this
          rw [List.getElem_map]
          rw [List.getElem?_eq_getElem (by rw [rowsM_len]; exact hi)] at this
          rw [Option.some.inj this]
        have hc := b3 (sf + j) (by omega) (by omega)
        have cell : atI (rowF A (t.getD (sf + j) 0) (sf + j)) (sc : Int) = some (optD (bestF A (sf + j) sc)) := by rw [at_nat, rowF_get hc]
        walk_at "dl"
        have hb : hasB ⟨sc, sf, sl, sw⟩ ((sf + j : Nat) : Int) (sc : Int) = true := hasB_iff.mpr ⟨rfl, Nat.le_add_right _ _, by show sf + j ≤ sl; omega⟩
        refine joinD (fun S' x => S' = S ++ (rowsM t A (A ++ [⟨sc, sf, sl, sw⟩]) (sf + j)).map Cell.lst ++ [.lst (ownsN S.length t.length)] ∧ x = optD (bestS (sf + j) sc (bestF A (sf + j) sc) ⟨sc, sf, sl, sw⟩)) (fun S' x hx => ?_) fun N hN => ?_
        · obtain ⟨rfl, rfl⟩ := hx
          have hix : ixN (rowF A (t.getD (sf + j) 0) (sf + j)).length (sc : Int) = some sc := by
            unfold ixN
            rw [rowF_len, if_pos (by omega), if_pos (by omega), Int.toNat_natCast]
          refine ⟨_, row, sc, hix, ?_, _, rfl⟩
          rw [mid_set (by omega), rowF_set (s := ⟨sc, sf, sl, sw⟩) ⟨Nat.le_add_right _ _, by show sf + j ≤ sl; omega⟩ hc]
          have st := rowsM_step (t := t) (A := A) (B := A ++ [⟨sc, sf, sl, sw⟩]) hi
          rw [show sf + (j + 1) = sf + j + 1 from rfl, ← st, List.map_set]
        · walk_at "dl"
          refine ⟨_, row, _, cell, ?_⟩
          have bs : bestS (sf + j) sc (bestF A (sf + j) sc) ⟨sc, sf, sl, sw⟩ = match bestF A (sf + j) sc with | none => some sw | some v => some (if v < sw then v else sw) := by
            unfold bestS
            rw [if_pos hb]
            try (cases bestF A (sf + j) sc <;> rfl)
          rw [bs] at hN
          cases hbf : bestF A (sf + j) sc with
          | none =>
            rw [hbf] at hN
            refine ⟨true, rfl, ?_⟩
            rw [if_pos rfl]
            exact hN _ _ ⟨rfl, rfl⟩
          | some v =>
            rw [hbf] at hN cell
            refine ⟨false, rfl, ?_⟩
            rw [if_neg Bool.false_ne_true]
            refine ⟨_, row, _, cell, ?_⟩
            show cMin2 [.int sw, .int v] _ N
            walk_at "dl"
            exact hN _ _ ⟨rfl, rfl⟩
      · obtain ⟨rfl, o, rfl⟩ := hp
        rw [ll]
        refine ⟨?_, _, _, _, _, _, _, rfl⟩
        rw [show sf + (sl + 1 - sf) = sl + 1 by omega, rowsM_last (s := ⟨sc, sf, sl, sw⟩)]
    · obtain ⟨rfl, a1, a2, a3, a4, a5, a6, rfl⟩ := hp
      rw [List.length_map, List.take_length]
      walk_at "dl"
      exact ret_now q
end DL
namespace DL
open PySem PySem.Spec PyProof.Rows L2
local macro_rules | `(tactic| walk_at "dl") => `(tactic| ((try simp only [gstart, gwipe, List.set_set, List.map_cons, List.map_nil, List.length_cons, List.length_nil, rep_0, rep_s, List.cons_append, List.nil_append, List.set_cons_zero, List.set_cons_succ, Nat.reduceAdd, Nat.reduceSub, Nat.zero_add, Nat.add_zero]); (try simp only [↓dv0, ↓dv1, ↓dv2, ↓dv3, ↓dv4, ↓dv5, ↓dv6, ↓dv7, ↓dv8, ↓dv9, ↓dv10, ↓dv11, ↓dv12, ↓dv13, ↓dv14, ↓dv15, ↓dv16, ↓dv17, ↓dv18, ↓dv19, ↓dv20, ↓dv21, ↓dv22, ↓dv23, ↓dv24, ↓dv25, ↓dv26, ↓dv27, ↓dv28, ↓dv29, ↓dv30, ↓dv31, ↓dv32, ↓dv33, ↓dv34, ↓dv35, ↓dv36, ↓dv37, ↓dv38, ↓dv39, ↓nm0, ↓nm1, ↓nm2, ↓nm3, ↓nm4, ↓nm5, ↓nm6, ↓nm7, ↓nm8, ↓nm9, ↓nm10, ↓nm11, ↓nm12, ↓nm13, ↓nm14, ↓nm15, ↓nm16, ↓nm17, ↓nm18, ↓nm19, ↓nm20, ↓nm21, ↓nm22, ↓nm23, ↓nm24, ↓nm25, ↓nm26, ↓nm27, ↓nm28, ↓nm29, ↓nm30, ↓nm31, ↓nm32, ↓nm33, ↓nm34, ↓nm35, ↓nm36, ↓nm37, ↓nm38, ↓nm39, ↓sPar_n, ↓sPar3_n, ↓sAug_n, ↓reduceIte, List.set_set, ↓sNext_e, ↓sSeq_e, ↓sBrk_e, ↓sCnt_e, ↓sDrop_e, ↓sRet_e, ↓sRetN_e, ↓sIf_e, ↓sAsg_e, ↓sRaise_e, ↓nmG_e, ↓tupG_e, ↓gsNil_e, ↓gsCons_e, ↓subG_e, ↓dC_e, ↓dOp_e, ↓dUn_e, ↓dChain_e, ↓bOf_e, ↓bAnd_e, ↓bOr_e, ↓bNot_e, ↓bYes_e, ↓dAnd_e, ↓dOr_e, ↓dNot_e, ↓dIf_e, ↓lNil_e, ↓lCons_e, ↓dLst_e, ↓dDic0_e, ↓dDic1_e, ↓dLenSetG_e, dIsB_b, ↓dLstO_e, ↓dTup_e, ↓dCB_e, ↓dCall_e, ↓dCallK_e, ↓oNone_e, ↓oSome_e, ↓dSl_e, ↓dBM_e, ↓dBM0_e, ↓dFz_e, ↓dFz2_e, ↓d2_e, ↓dLone_e, ↓lStar_e, ↓dCallA_e, ↓dMakeA_e, ↓dMakeV_e, ↓dMethA_e, ↓dCMethA_e, ↓dPropA_e, ↓dFld_e, ↓sFldS_e, ↓dFzI_e, ↓fzID_o, ↓dM1_e, ↓dM0_e, ↓dRev_e, ↓mSplit_s, ↓mUpper_s, ↓exStr, ↓exZ, ↓cStrI_i, ↓cIntS_s, ↓iStrD_e, ↓dEqF_s, ↓dNeF_s, ↓dEqF_i, ↓dNeF_i, ↓dSign_s, ↓sRaiseI_e, ↓dXFld_e, ↓mPop_e, ↓dAddO_l, ↓dAddO_o, ↓dMk0_e, ↓sKeep_e, ↓sTryH_e, ↓dCVal_e, ↓dConI_e, ↓cLen_s, ↓dIx_s, ↓dSlS_s, ↓dAdd_s, ↓cTup_l, ↓pkP_e, ↓pkS_e, ↓lstG_e, ↓asI_i, ↓iSeq_e, ↓iTupD_e, ↓iRg1_e, ↓iRg2_e, ↓iZipD_e, iZrD_e, ↓iEnumD_e, ↓sFor_e, ↓dLc_e, ↓finF_e, ↓finO_e, ↓fzD_l, ↓fzD_i, ↓fzD_o, ↓fzD2_o, ↓dSetO_e, ↓mAppend_e, ↓mClear_e, ↓mReverse_e, List.map_cons, List.map_nil, List.length_cons, List.length_nil, rep_0, rep_s, List.cons_append, List.nil_append, List.getElem?_cons_zero, List.getElem?_cons_succ, List.set_cons_zero, List.set_cons_succ, Nat.reduceAdd, Nat.reduceSub, Nat.zero_add, Nat.add_zero, ↓exSS, ↓exB, ↓exI, ↓ex1, ↓ex2, ↓ex3, ↓exI1, ↓exI2, ↓exT, ↓exC, ↓exAs, ↓dAdd_i, ↓dAddI_i, ↓dSubI_i, ↓dLRg_e, ↓dIsiT_e, ↓dLenSet_e, ↓bChain3_e, ↓dLRg2_e, ↓iRg3_e, ↓dLc2_e, ↓dSlT_t, dAddT_t, ↓dNewK_e, ↓dDis1_e, ↓sDkp_e, ↓dDGet_e, ↓dDGet2_e, ↓dLVals_e, ↓kD_ex_i, ↓dSS_e, ↓dST_e, ↓dSI_e, ↓lsG_e, ↓dMulI_i, ↓dNew_e, ↓sDct_e, ↓dMulO_l, ↓dLRgO_e, ↓dAdd_l, ↓dSub_i, ↓dMul_i, ↓dMul_l, ↓dMod_i, ↓dDiv_i, ↓dPow_i, ↓dLt_i, ↓dLe_i, ↓dGt_i, ↓dGe_i, ↓uNeg_i, ↓cMax2_i, ↓cMin2_i, ↓cAbs_i, ↓cInt_i, ↓cInt_b, ↓cLen_l, ↓cLen_q, ↓cLen_t, ↓cList_l, ↓cList_q, ↓cList_t, ↓cListO_l, ↓cListO_t, ↓dIx_l, ↓dIx_q, ↓dIx_t, ↓dIx_o', ↓exS, ↓exL, at_1, at_2, at_3, at_4, ix30, ix31, ix32, ↓dSlL_l, ↓dSlL_q, ↓asQ_l, ↓asL_l, at_0, ↓isi_non_int, ↓isi_non_bool, ↓isi_non_str, ↓isi_non_list, ↓isi_non_tuple, ↓isi_non_dict, ↓isi_bl_int, ↓isi_bl_bool, ↓isi_bl_str, ↓isi_bl_list, ↓isi_bl_tuple, ↓isi_bl_dict, ↓isi_int_int, ↓isi_int_bool, ↓isi_int_str, ↓isi_int_list, ↓isi_int_tuple, ↓isi_int_dict, ↓isi_str_int, ↓isi_str_bool, ↓isi_str_str, ↓isi_str_list, ↓isi_str_tuple, ↓isi_str_dict, ↓isi_lst_int, ↓isi_lst_bool, ↓isi_lst_str, ↓isi_lst_list, ↓isi_lst_tuple, ↓isi_lst_dict, ↓isi_sq_int, ↓isi_sq_bool, ↓isi_sq_str, ↓isi_sq_list, ↓isi_sq_tuple, ↓isi_sq_dict, ↓isi_tup_int, ↓isi_tup_bool, ↓isi_tup_str, ↓isi_tup_list, ↓isi_tup_tuple, ↓isi_tup_dict, ↓isi_dic_int, ↓isi_dic_bool, ↓isi_dic_str, ↓isi_dic_list, ↓isi_dic_tuple, ↓isi_dic_dict, if_true, if_false, Bool.not_true, Bool.not_false, true_and, and_true, reduceCtorEq, Bool.true_eq_false, Bool.false_eq_true, ite_true, ite_false, ↓exAny, ↓isLst_l, Int.toNat_natCast, Int.reduceToNat, dVar_e, sPar_e, sPar3_e, sAug_e])))
local macro_rules | `(tactic| walk_at "dls") => `(tactic| ((try simp only [gstart, gwipe, List.set_set, List.map_cons, List.map_nil, List.length_cons, List.length_nil, rep_0, rep_s, List.cons_append, List.nil_append, List.set_cons_zero, List.set_cons_succ, Nat.reduceAdd, Nat.reduceSub, Nat.zero_add, Nat.add_zero]); (try simp only [*, ↓dv0, ↓dv1, ↓dv2, ↓dv3, ↓dv4, ↓dv5, ↓dv6, ↓dv7, ↓dv8, ↓dv9, ↓dv10, ↓dv11, ↓dv12, ↓dv13, ↓dv14, ↓dv15, ↓dv16, ↓dv17, ↓dv18, ↓dv19, ↓dv20, ↓dv21, ↓dv22, ↓dv23, ↓dv24, ↓dv25, ↓dv26, ↓dv27, ↓dv28, ↓dv29, ↓dv30, ↓dv31, ↓dv32, ↓dv33, ↓dv34, ↓dv35, ↓dv36, ↓dv37, ↓dv38, ↓dv39, ↓nm0, ↓nm1, ↓nm2, ↓nm3, ↓nm4, ↓nm5, ↓nm6, ↓nm7, ↓nm8, ↓nm9, ↓nm10, ↓nm11, ↓nm12, ↓nm13, ↓nm14, ↓nm15, ↓nm16, ↓nm17, ↓nm18, ↓nm19, ↓nm20, ↓nm21, ↓nm22, ↓nm23, ↓nm24, ↓nm25, ↓nm26, ↓nm27, ↓nm28, ↓nm29, ↓nm30, ↓nm31, ↓nm32, ↓nm33, ↓nm34, ↓nm35, ↓nm36, ↓nm37, ↓nm38, ↓nm39, ↓sPar_n, ↓sPar3_n, ↓sAug_n, ↓reduceIte, List.set_set, ↓sNext_e, ↓sSeq_e, ↓sBrk_e, ↓sCnt_e, ↓sDrop_e, ↓sRet_e, ↓sRetN_e, ↓sIf_e, ↓sAsg_e, ↓sRaise_e, ↓nmG_e, ↓tupG_e, ↓gsNil_e, ↓gsCons_e, ↓subG_e, ↓dC_e, ↓dOp_e, ↓dUn_e, ↓dChain_e, ↓bOf_e, ↓bAnd_e, ↓bOr_e, ↓bNot_e, ↓bYes_e, ↓dAnd_e, ↓dOr_e, ↓dNot_e, ↓dIf_e, ↓lNil_e, ↓lCons_e, ↓dLst_e, ↓dDic0_e, ↓dDic1_e, ↓dLenSetG_e, dIsB_b, ↓dLstO_e, ↓dTup_e, ↓dCB_e, ↓dCall_e, ↓dCallK_e, ↓oNone_e, ↓oSome_e, ↓dSl_e, ↓dBM_e, ↓dBM0_e, ↓dFz_e, ↓dFz2_e, ↓d2_e, ↓dLone_e, ↓lStar_e, ↓dCallA_e, ↓dMakeA_e, ↓dMakeV_e, ↓dMethA_e, ↓dCMethA_e, ↓dPropA_e, ↓dFld_e, ↓sFldS_e, ↓dFzI_e, ↓fzID_o, ↓dM1_e, ↓dM0_e, ↓dRev_e, ↓mSplit_s, ↓mUpper_s, ↓exStr, ↓exZ, ↓cStrI_i, ↓cIntS_s, ↓iStrD_e, ↓dEqF_s, ↓dNeF_s, ↓dEqF_i, ↓dNeF_i, ↓dSign_s, ↓sRaiseI_e, ↓dXFld_e, ↓mPop_e, ↓dAddO_l, ↓dAddO_o, ↓dMk0_e, ↓sKeep_e, ↓sTryH_e, ↓dCVal_e, ↓dConI_e, ↓cLen_s, ↓dIx_s, ↓dSlS_s, ↓dAdd_s, ↓cTup_l, ↓pkP_e, ↓pkS_e, ↓lstG_e, ↓asI_i, ↓iSeq_e, ↓iTupD_e, ↓iRg1_e, ↓iRg2_e, ↓iZipD_e, iZrD_e, ↓iEnumD_e, ↓sFor_e, ↓dLc_e, ↓finF_e, ↓finO_e, ↓fzD_l, ↓fzD_i, ↓fzD_o, ↓fzD2_o, ↓dSetO_e, ↓mAppend_e, ↓mClear_e, ↓mReverse_e, List.map_cons, List.map_nil, List.length_cons, List.length_nil, rep_0, rep_s, List.cons_append, List.nil_append, List.getElem?_cons_zero, List.getElem?_cons_succ, List.set_cons_zero, List.set_cons_succ, Nat.reduceAdd, Nat.reduceSub, Nat.zero_add, Nat.add_zero, ↓exSS, ↓exB, ↓exI, ↓ex1, ↓ex2, ↓ex3, ↓exI1, ↓exI2, ↓exT, ↓exC, ↓exAs, ↓dAdd_i, ↓dAddI_i, ↓dSubI_i, ↓dLRg_e, ↓dIsiT_e, ↓dLenSet_e, ↓bChain3_e, ↓dLRg2_e, ↓iRg3_e, ↓dLc2_e, ↓dSlT_t, dAddT_t, ↓dNewK_e, ↓dDis1_e, ↓sDkp_e, ↓dDGet_e, ↓dDGet2_e, ↓dLVals_e, ↓kD_ex_i, ↓dSS_e, ↓dST_e, ↓dSI_e, ↓lsG_e, ↓dMulI_i, ↓dNew_e, ↓sDct_e, ↓dMulO_l, ↓dLRgO_e, ↓dAdd_l, ↓dSub_i, ↓dMul_i, ↓dMul_l, ↓dMod_i, ↓dDiv_i, ↓dPow_i, ↓dLt_i, ↓dLe_i, ↓dGt_i, ↓dGe_i, ↓uNeg_i, ↓cMax2_i, ↓cMin2_i, ↓cAbs_i, ↓cInt_i, ↓cInt_b, ↓cLen_l, ↓cLen_q, ↓cLen_t, ↓cList_l, ↓cList_q, ↓cList_t, ↓cListO_l, ↓cListO_t, ↓dIx_l, ↓dIx_q, ↓dIx_t, ↓dIx_o', ↓exS, ↓exL, at_1, at_2, at_3, at_4, ix30, ix31, ix32, ↓dSlL_l, ↓dSlL_q, ↓asQ_l, ↓asL_l, at_0, ↓isi_non_int, ↓isi_non_bool, ↓isi_non_str, ↓isi_non_list, ↓isi_non_tuple, ↓isi_non_dict, ↓isi_bl_int, ↓isi_bl_bool, ↓isi_bl_str, ↓isi_bl_list, ↓isi_bl_tuple, ↓isi_bl_dict, ↓isi_int_int, ↓isi_int_bool, ↓isi_int_str, ↓isi_int_list, ↓isi_int_tuple, ↓isi_int_dict, ↓isi_str_int, ↓isi_str_bool, ↓isi_str_str, ↓isi_str_list, ↓isi_str_tuple, ↓isi_str_dict, ↓isi_lst_int, ↓isi_lst_bool, ↓isi_lst_str, ↓isi_lst_list, ↓isi_lst_tuple, ↓isi_lst_dict, ↓isi_sq_int, ↓isi_sq_bool, ↓isi_sq_str, ↓isi_sq_list, ↓isi_sq_tuple, ↓isi_sq_dict, ↓isi_tup_int, ↓isi_tup_bool, ↓isi_tup_str, ↓isi_tup_list, ↓isi_tup_tuple, ↓isi_tup_dict, ↓isi_dic_int, ↓isi_dic_bool, ↓isi_dic_str, ↓isi_dic_list, ↓isi_dic_tuple, ↓isi_dic_dict, if_true, if_false, Bool.not_true, Bool.not_false, true_and, and_true, reduceCtorEq, Bool.true_eq_false, Bool.false_eq_true, ite_true, ite_false, ↓exAny, ↓isLst_l, Int.toNat_natCast, Int.reduceToNat, dVar_e, sPar_e, sPar3_e, sAug_e])))
--MI
theorem en_len {α : Type} (xs : List α) (f : α → D) : (enumD (xs.map f)).length = xs.length := by rw [enumD_len, List.length_map]
theorem en_get {α : Type} (xs : List α) (f : α → D) {i : Nat} (hi : i < xs.length) : (enumD (xs.map f))[i]'(by rw [en_len]; exact hi) = .tup [.int (i : Int), f xs[i]] := by
  unfold enumD
  simp [List.getD_eq_getElem?_getD, hi]
theorem for_e {α : Type} {G : TGd} {B : TSd} {E : EdD} {Γ : Gam} {S : Sto} (xs : List α) (f : α → D) (P : Nat → Gam → Sto → Prop) (h0 : P 0 Γ S) (hs : ∀ i Γ' S' (hi : i < xs.length), P i Γ' S' → G (.tup [.int (i : Int), f xs[i]]) Γ' S' fun Γ2 S2 => B { E with nx := P (i + 1), ct := P (i + 1), bk := E.nx } Γ2 S2) (hd : ∀ Γ' S', P xs.length Γ' S' → E.nx Γ' S') : forP (fun _ => Option.map enumD (some (xs.map f))) G B E Γ S := by
  show forP (fun _ => some (enumD (xs.map f))) G B E Γ S
  refine for_l P h0 (fun i Γ' S' hi hp => ?_) fun Γ' S' hp => hd Γ' S' (by rw [en_len] at hp; exact hp)
  rw [en_len] at hi
  rw [en_get xs f hi]
  exact hs i Γ' S' hi hp
theorem best_has : ∀ (ss : List Sg) (o : Option Int) (i c : Nat) (v : Int), ss.foldl (bestS i c) o = some v → o = some v ∨ ∃ s ∈ ss, hasB s i c = true ∧ s.w = v
  | [], o, i, c, v, h => .inl h
  | s :: ss, o, i, c, v, h => by
    rw [List.foldl_cons] at h
    rcases best_has ss _ i c v h with z | ⟨s2, hs, z⟩
    · unfold bestS at z
      by_cases hb : hasB s i c = true
      · rw [if_pos hb] at z
        cases o with
        | none => exact .inr ⟨s, .head _, hb, Option.some.inj z⟩
        | some u =>
          by_cases hu : u < s.w
          · have z : (some (if u < s.w then u else s.w) : Option Int) = some v := z
            rw [if_pos hu] at z
            exact .inl z
          · have z : (some (if u < s.w then u else s.w) : Option Int) = some v := z
            rw [if_neg hu] at z
            exact .inr ⟨s, .head _, hb, Option.some.inj z⟩
      · rw [if_neg hb] at z
        exact .inl z
    · exact .inr ⟨s2, .tail _ hs, z⟩
theorem best_keep : ∀ (ss : List Sg) (i c : Nat) (v : Int), ∃ u, ss.foldl (bestS i c) (some v) = some u
  | [], _, _, v => ⟨v, rfl⟩
  | s :: ss, i, c, v => by
    rw [List.foldl_cons]
    unfold bestS
    by_cases hb : hasB s i c = true
    · rw [if_pos hb]
      exact best_keep ss i c _
    · rw [if_neg hb]
      exact best_keep ss i c v
theorem best_some {ss : List Sg} {s : Sg} {i c : Nat} (hs : s ∈ ss) (hb : hasB s i c = true) : ∃ u, bestF ss i c = some u := by
  obtain ⟨A, B, rfl⟩ := List.append_of_mem hs
  unfold bestF
  rw [List.foldl_append, List.foldl_cons]
  have this : ∀ o, ∃ w, bestS i c o s = some w := fun o => by
    unfold bestS
    rw [if_pos hb]
    cases o <;> exact ⟨_, rfl⟩
  obtain ⟨w, e⟩ := this (A.foldl (bestS i c) none)
  rw [e]
  exact best_keep B i c w
theorem less_some {ss : List Sg} {i c : Nat} {v w : Int} (h : bestF ss i c = some v) (hv : v < w) : ∃ q, lessF ss i c w = some q ∧ q < ss.length := by
  rcases best_has ss none i c v h with z | ⟨s, hs, hb, rfl⟩
  · cases z
  · cases e : lessF ss i c w with
    | none =>
      have := List.findIdx?_eq_none_iff.mp e s hs
      rw [hb, decide_eq_true hv] at this
      cases this
    | some q =>
      obtain ⟨hq, _⟩ := List.findIdx?_eq_some_iff_getElem.mp e
      exact ⟨q, rfl, hq⟩
theorem p_Sights_lesser_sight (C : Addr) : Rets (sp_Sights_lesser_sight C) (T_Sights_lesser_sight C) N_Sights_lesser_sight := by
  rintro _ S Φ Ψ ⟨d, t, ss, i, c, w, rfl, e, hl, q⟩
  unfold T_Sights_lesser_sight
  walk_at "dl"
  refine ⟨_, e, _, rfl, ⟨_, rfl⟩, for_e ss sgD (fun k Γ S' => S' = S ∧ (∀ j (h : j < k) (h2 : j < ss.length), ¬ (hasB ss[j] i c && decide (ss[j].w < w)) = true) ∧ ∃ o1 o2, Γ = [some d, some (.int i), some (.int c), some (.int w), o1, o2]) ⟨rfl, (fun j h => absurd h (Nat.not_lt_zero j)), _, _, rfl⟩ (fun k Γ' S' hk hp => ?_) fun Γ' S' hp => ?_⟩
  · obtain ⟨rfl, hno, o1, o2, rfl⟩ := hp
    walk_at "dl"
    refine ⟨ss[k], i, c, rfl, hasB ss[k] i c, rfl, ?_⟩
    cases hb : hasB ss[k] i c with
    | false =>
      rw [if_neg Bool.false_ne_true]
      refine ⟨rfl, fun j h h2 => ?_, _, _, rfl⟩
      by_cases z : j = k
      · subst z
        rw [hb]
        simp
      · exact hno j (by omega) h2
    | true =>
      rw [if_pos rfl]
      by_cases hw : ss[k].w < w
      · rw [if_pos (by rw [decide_eq_true_eq]; exact hw)]
        have : lessF ss i c w = some k := List.findIdx?_eq_some_iff_getElem.mpr ⟨hk, by rw [hb, decide_eq_true hw]; rfl, fun j hj => hno j hj (by omega)⟩
        rw [this] at q
        exact ret_now q
      · rw [if_neg (by rw [decide_eq_true_eq]; exact hw)]
        refine ⟨rfl, fun j h h2 => ?_, _, _, rfl⟩
        by_cases z : j = k
        · subst z
          rw [decide_eq_false hw, Bool.and_false]
          simp
        · exact hno j (by omega) h2
  · obtain ⟨rfl, hno, o1, o2, rfl⟩ := hp
    walk_at "dl"
    have : lessF ss i c w = none := List.findIdx?_eq_none_iff.mpr fun s hs => by
      obtain ⟨j, hj, rfl⟩ := List.mem_iff_getElem.mp hs
      have := hno j hj hj
      rwa [Bool.not_eq_true] at this
    rw [this] at q
    exact ret_now q
theorem confl_low (ss : List Sg) (n : Nat) : (conflD ss).low n = true := by
  unfold conflD
  split
  · rw [D.low, lowA, lowA, lowA, D.low, D.low, lowA_map _ _ (fun _ => rfl)]
    rfl
  · rfl
theorem p_Sights_conflict (C : Addr) : Rets (sp_Sights_conflict C) (T_Sights_conflict C) N_Sights_conflict := by
  rintro _ S Φ Ψ ⟨d, t, ss, rfl, e, ok, oks, q⟩
  unfold T_Sights_conflict
  have h60 := ok.hi
  have h40 := oks.hi
  walk_at "dl"
  refine ⟨_, e, rfl, d, t, ss, rfl, e, ok, oks, ?_⟩
  have eS : ∀ i, i < t.length → (S ++ (rowsF t ss).map Cell.lst ++ [Cell.lst (ownsN S.length t.length)])[S.length + i]? = some (.lst (rowF ss (t.getD i 0) i)) := fun i hi => by
    have rl : (rowsF t ss).length = t.length := by unfold rowsF; rw [List.length_map, List.length_range]
    rw [mid_get (by rw [List.length_map, rl]; exact hi), List.getElem_map]
    have : (rowsF t ss)[i]? = some (rowF ss (t.getD i 0) i) := by
      unfold rowsF
      rw [List.getElem?_map, List.getElem?_range hi]
      rfl
    rw [List.getElem?_eq_getElem (by rw [rl]; exact hi)] at this
    rw [Option.some.inj this]
  have eT : (S ++ (rowsF t ss).map Cell.lst ++ [Cell.lst (ownsN S.length t.length)])[S.length + t.length]? = some (.lst (ownsN S.length t.length)) := by
    have rl : ((rowsF t ss).map Cell.lst).length = t.length := by rw [List.length_map]; unfold rowsF; rw [List.length_map, List.length_range]
    rw [List.getElem?_append_right (by rw [List.length_append]; omega), List.length_append, rl, Nat.sub_self]
    rfl
  have e1 := asI_app (T := (rowsF t ss).map Cell.lst) e
  have e2 := asI_app (T := [Cell.lst (ownsN S.length t.length)]) e1
  have fin : RetOk S Φ (S ++ (rowsF t ss).map Cell.lst ++ [Cell.lst (ownsN S.length t.length)]) (conflD ss) := by
    rw [List.append_assoc]
    exact ret_cut (confl_low ss _) q
  clear q e1
  generalize S ++ (rowsF t ss).map Cell.lst ++ [Cell.lst (ownsN S.length t.length)] = F at *
  refine ⟨_, e2, _, rfl, ⟨_, rfl⟩, for_e ss sgD (fun k Γ S' => S' = F ∧ (∀ j (h : j < k) (h2 : j < ss.length), ¬ badB ss ss[j] = true) ∧ ∃ o1 o2 o3 o4 o5 o6 o7, Γ = [some d, some (.own (S.length + t.length)), o1, o2, o3, o4, o5, o6, o7]) ⟨rfl, (fun j h => absurd h (Nat.not_lt_zero j)), _, _, _, _, _, _, _, rfl⟩ (fun k Γ' S' hk hp => ?_) fun Γ' S' hp => ?_⟩
  · obtain ⟨rfl, hno, o1, o2, o3, o4, o5, o6, o7, rfl⟩ := hp
    have hs := oks.at_ _ (List.getElem_mem hk)
    have hm : ss[k] ∈ ss := List.getElem_mem hk
    have hgd : ss.getD k ⟨0, 0, 0, 0⟩ = ss[k] := by rw [List.getD_eq_getElem?_getD, List.getElem?_eq_getElem hk, Option.getD_some]
    generalize ek : ss[k] = s at hs hm hgd ⊢
    obtain ⟨sc, sf, sl, sw⟩ := s
    have b1 : sf ≤ sl := hs.fl
    have b2 : sl < t.length := hs.l
    have b3 : ∀ i, sf ≤ i → i ≤ sl → sc < t.getD i 0 := hs.has
    have bv : ∀ j, j < sl + 1 - sf → bestF ss (sf + j) sc = some ((bestF ss (sf + j) sc).getD 0) := fun j hj => by
      obtain ⟨u, hu⟩ := best_some (i := sf + j) (c := sc) hm (hasB_iff.mpr ⟨rfl, Nat.le_add_right _ _, by show sf + j ≤ sl; omega⟩)
      rw [hu]
      rfl
    dsimp only [sgD]
    walk_at "dl"
    rw [dSlL_L (asL_at' eT)]
    have b4 : sl + 1 ≤ (ownsN S.length t.length).length := by rw [ownsN_len]; omega
    rw [show ((sl : Int) + 1) = ((sl + 1 : Nat) : Int) from rfl, cut_mid b4 (by omega)]
    have ll : (((ownsN S.length t.length).drop sf).take (sl + 1 - sf)).length = sl + 1 - sf := by
      rw [List.length_take, List.length_drop, ownsN_len]
      omega
    refine ⟨⟨_, rfl⟩, lc_l (fun j acc S2 => S2 = S' ∧ acc = (List.range j).map fun j => D.int ((bestF ss (sf + j) sc).getD 0)) (small (by omega)) ⟨rfl, rfl⟩ (fun j acc S2 hj hp => ?_) fun acc S2 hp => ?_⟩
    · obtain ⟨rfl, rfl⟩ := hp
      rw [ll] at hj
      have ej : (((ownsN S.length t.length).drop sf).take (sl + 1 - sf))[j]'(by rw [ll]; exact hj) = .own (S.length + (sf + j)) := by
        rw [List.getElem_take, List.getElem_drop]
        have := ownsN_get (a := S.length) (n := t.length) (i := sf + j) (by omega)
        rw [List.getElem?_eq_getElem (by rw [ownsN_len]; omega)] at this
        exact Option.some.inj this
      rw [ej]
      walk_at "dl"
      refine ⟨_, eS _ (by omega), optD (bestF ss (sf + j) sc), by rw [at_nat, rowF_get (b3 _ (by omega) (by omega))], ?_⟩
      rw [bv j hj, List.range_succ, List.map_append]
      rfl
    obtain ⟨rfl, rfl⟩ := hp
    rw [ll]
    walk_at "dl"
    refine ⟨(List.range (sl + 1 - sf)).map fun j => (bestF ss (sf + j) sc).getD 0, by rw [List.map_map]; rfl, by rw [List.length_map, List.length_range]; omega, fun m hm1 hm2 => ?_⟩
    obtain ⟨jm, hjm, ejm⟩ := List.mem_map.mp hm1
    have hjm := List.mem_range.mp hjm
    have bd : badB ss ⟨sc, sf, sl, sw⟩ = true ↔ m < sw := by
      unfold badB
      rw [List.all_eq_true]
      constructor
      · intro h
        have := h jm (List.mem_range.mpr hjm)
        dsimp only at this
        rw [bv jm hjm, decide_eq_true_eq, ejm] at this
        exact this
      · intro h j hj
        have hj := List.mem_range.mp hj
        dsimp only
        dsimp only at hj
        rw [bv j hj, decide_eq_true_eq]
        exact Int.lt_of_le_of_lt (hm2 _ (List.mem_map.mpr ⟨j, List.mem_range.mpr hj, rfl⟩)) h
    walk_at "dl"
    by_cases hw : m < sw
    · rw [if_pos (by rw [decide_eq_true_eq]; exact hw)]
      have hf : ss.findIdx? (badB ss) = some k := List.findIdx?_eq_some_iff_getElem.mpr ⟨hk, by rw [ek]; exact bd.mpr hw, fun j hj => hno j hj (by omega)⟩
      unfold conflD at fin
      rw [hf] at fin
      dsimp only at fin
      rw [hgd] at fin
      have en : (((sl + 1 : Nat) : Int) - (sf : Int)).toNat = sl + 1 - sf := by omega
      refine ⟨⟨by omega, by omega, by omega, by omega⟩, ?_⟩
      rw [en]
      refine lc_l (fun j acc S3 => S3 = S2 ∧ acc = (List.range j).map fun j => D.int (((lessF ss (sf + j) sc sw).getD 0 : Nat) : Int)) (by rw [rng_len]; exact small (by omega)) ⟨rfl, rfl⟩ (fun j acc S3 hj hp => ?_) fun acc S3 hp => ?_
      · obtain ⟨rfl, rfl⟩ := hp
        rw [rng_len] at hj
        rw [show (rngD (sf : Int) (sl + 1 - sf))[j] = D.int ((sf + j : Nat) : Int) by simp [rngD]]
        walk_at "dl"
        have lw : (bestF ss (sf + j) sc).getD 0 < sw := Int.lt_of_le_of_lt (hm2 _ (List.mem_map.mpr ⟨j, List.mem_range.mpr hj, rfl⟩)) hw
        obtain ⟨qq, eq, _⟩ := less_some (bv j hj) lw
        refine ⟨_, e2, rfl, d, t, ss, sf + j, sc, sw, rfl, e2, h40, ?_⟩
        rw [eq, List.range_succ, List.map_append]
        refine ⟨rfl, ?_⟩
        show _ ++ [D.int ((qq : Nat) : Int)] = _ ++ [D.int (((lessF ss (sf + j) sc sw).getD 0 : Nat) : Int)]
        rw [eq]
        rfl
      · obtain ⟨rfl, rfl⟩ := hp
        rw [rng_len]
        walk_at "dl"
        exact ⟨small (by decide), fin⟩
    · rw [if_neg (by rw [decide_eq_true_eq]; exact hw)]
      refine ⟨fun j h h2 => ?_, _, _, _, _, _, _, _, rfl⟩
      by_cases z : j = k
      · subst z
        rw [ek]
        exact fun z => hw (bd.mp z)
      · exact hno j (by omega) h2
  · obtain ⟨rfl, hno, o1, o2, o3, o4, o5, o6, o7, rfl⟩ := hp
    walk_at "dl"
    have : ss.findIdx? (badB ss) = none := List.findIdx?_eq_none_iff.mpr fun s hs => by
      obtain ⟨j, hj, rfl⟩ := List.mem_iff_getElem.mp hs
      have := hno j hj hj
      rwa [Bool.not_eq_true] at this
    unfold conflD at fin
    rw [this] at fin
    exact fin
end DL
namespace DL
open PySem PySem.Spec PyProof.Rows L2
local macro_rules | `(tactic| walk_at "dl") => `(tactic| ((try simp only [gstart, gwipe, List.set_set, List.map_cons, List.map_nil, List.length_cons, List.length_nil, rep_0, rep_s, List.cons_append, List.nil_append, List.set_cons_zero, List.set_cons_succ, Nat.reduceAdd, Nat.reduceSub, Nat.zero_add, Nat.add_zero]); (try simp only [↓dv0, ↓dv1, ↓dv2, ↓dv3, ↓dv4, ↓dv5, ↓dv6, ↓dv7, ↓dv8, ↓dv9, ↓dv10, ↓dv11, ↓dv12, ↓dv13, ↓dv14, ↓dv15, ↓dv16, ↓dv17, ↓dv18, ↓dv19, ↓dv20, ↓dv21, ↓dv22, ↓dv23, ↓dv24, ↓dv25, ↓dv26, ↓dv27, ↓dv28, ↓dv29, ↓dv30, ↓dv31, ↓dv32, ↓dv33, ↓dv34, ↓dv35, ↓dv36, ↓dv37, ↓dv38, ↓dv39, ↓nm0, ↓nm1, ↓nm2, ↓nm3, ↓nm4, ↓nm5, ↓nm6, ↓nm7, ↓nm8, ↓nm9, ↓nm10, ↓nm11, ↓nm12, ↓nm13, ↓nm14, ↓nm15, ↓nm16, ↓nm17, ↓nm18, ↓nm19, ↓nm20, ↓nm21, ↓nm22, ↓nm23, ↓nm24, ↓nm25, ↓nm26, ↓nm27, ↓nm28, ↓nm29, ↓nm30, ↓nm31, ↓nm32, ↓nm33, ↓nm34, ↓nm35, ↓nm36, ↓nm37, ↓nm38, ↓nm39, ↓sPar_n, ↓sPar3_n, ↓sAug_n, ↓reduceIte, List.set_set, ↓sNext_e, ↓sSeq_e, ↓sBrk_e, ↓sCnt_e, ↓sDrop_e, ↓sRet_e, ↓sRetN_e, ↓sIf_e, ↓sAsg_e, ↓sRaise_e, ↓nmG_e, ↓tupG_e, ↓gsNil_e, ↓gsCons_e, ↓subG_e, ↓dC_e, ↓dOp_e, ↓dUn_e, ↓dChain_e, ↓bOf_e, ↓bAnd_e, ↓bOr_e, ↓bNot_e, ↓bYes_e, ↓dAnd_e, ↓dOr_e, ↓dNot_e, ↓dIf_e, ↓lNil_e, ↓lCons_e, ↓dLst_e, ↓dDic0_e, ↓dDic1_e, ↓dLenSetG_e, dIsB_b, ↓dLstO_e, ↓dTup_e, ↓dCB_e, ↓dCall_e, ↓dCallK_e, ↓oNone_e, ↓oSome_e, ↓dSl_e, ↓dBM_e, ↓dBM0_e, ↓dFz_e, ↓dFz2_e, ↓d2_e, ↓dLone_e, ↓lStar_e, ↓dCallA_e, ↓dMakeA_e, ↓dMakeV_e, ↓dMethA_e, ↓dCMethA_e, ↓dPropA_e, ↓dFld_e, ↓sFldS_e, ↓dFzI_e, ↓fzID_o, ↓dM1_e, ↓dM0_e, ↓dRev_e, ↓mSplit_s, ↓mUpper_s, ↓exStr, ↓exZ, ↓cStrI_i, ↓cIntS_s, ↓iStrD_e, ↓dEqF_s, ↓dNeF_s, ↓dEqF_i, ↓dNeF_i, ↓dSign_s, ↓sRaiseI_e, ↓dXFld_e, ↓mPop_e, ↓dAddO_l, ↓dAddO_o, ↓dMk0_e, ↓sKeep_e, ↓sTryH_e, ↓dCVal_e, ↓dConI_e, ↓cLen_s, ↓dIx_s, ↓dSlS_s, ↓dAdd_s, ↓cTup_l, ↓pkP_e, ↓pkS_e, ↓lstG_e, ↓asI_i, ↓iSeq_e, ↓iTupD_e, ↓iRg1_e, ↓iRg2_e, ↓iZipD_e, iZrD_e, ↓iEnumD_e, ↓sFor_e, ↓dLc_e, ↓finF_e, ↓finO_e, ↓fzD_l, ↓fzD_i, ↓fzD_o, ↓fzD2_o, ↓dSetO_e, ↓mAppend_e, ↓mClear_e, ↓mReverse_e, List.map_cons, List.map_nil, List.length_cons, List.length_nil, rep_0, rep_s, List.cons_append, List.nil_append, List.getElem?_cons_zero, List.getElem?_cons_succ, List.set_cons_zero, List.set_cons_succ, Nat.reduceAdd, Nat.reduceSub, Nat.zero_add, Nat.add_zero, ↓exSS, ↓exB, ↓exI, ↓ex1, ↓ex2, ↓ex3, ↓exI1, ↓exI2, ↓exT, ↓exC, ↓exAs, ↓dAdd_i, ↓dAddI_i, ↓dSubI_i, ↓dLRg_e, ↓dIsiT_e, ↓dLenSet_e, ↓bChain3_e, ↓dLRg2_e, ↓iRg3_e, ↓dLc2_e, ↓dSlT_t, dAddT_t, ↓dNewK_e, ↓dDis1_e, ↓sDkp_e, ↓dDGet_e, ↓dDGet2_e, ↓dLVals_e, ↓kD_ex_i, ↓dSS_e, ↓dST_e, ↓dSI_e, ↓lsG_e, ↓dMulI_i, ↓dNew_e, ↓sDct_e, ↓dMulO_l, ↓dLRgO_e, ↓dAdd_l, ↓dSub_i, ↓dMul_i, ↓dMul_l, ↓dMod_i, ↓dDiv_i, ↓dPow_i, ↓dLt_i, ↓dLe_i, ↓dGt_i, ↓dGe_i, ↓uNeg_i, ↓cMax2_i, ↓cMin2_i, ↓cAbs_i, ↓cInt_i, ↓cInt_b, ↓cLen_l, ↓cLen_q, ↓cLen_t, ↓cList_l, ↓cList_q, ↓cList_t, ↓cListO_l, ↓cListO_t, ↓dIx_l, ↓dIx_q, ↓dIx_t, ↓dIx_o', ↓exS, ↓exL, at_1, at_2, at_3, at_4, ix30, ix31, ix32, ↓dSlL_l, ↓dSlL_q, ↓asQ_l, ↓asL_l, at_0, ↓isi_non_int, ↓isi_non_bool, ↓isi_non_str, ↓isi_non_list, ↓isi_non_tuple, ↓isi_non_dict, ↓isi_bl_int, ↓isi_bl_bool, ↓isi_bl_str, ↓isi_bl_list, ↓isi_bl_tuple, ↓isi_bl_dict, ↓isi_int_int, ↓isi_int_bool, ↓isi_int_str, ↓isi_int_list, ↓isi_int_tuple, ↓isi_int_dict, ↓isi_str_int, ↓isi_str_bool, ↓isi_str_str, ↓isi_str_list, ↓isi_str_tuple, ↓isi_str_dict, ↓isi_lst_int, ↓isi_lst_bool, ↓isi_lst_str, ↓isi_lst_list, ↓isi_lst_tuple, ↓isi_lst_dict, ↓isi_sq_int, ↓isi_sq_bool, ↓isi_sq_str, ↓isi_sq_list, ↓isi_sq_tuple, ↓isi_sq_dict, ↓isi_tup_int, ↓isi_tup_bool, ↓isi_tup_str, ↓isi_tup_list, ↓isi_tup_tuple, ↓isi_tup_dict, ↓isi_dic_int, ↓isi_dic_bool, ↓isi_dic_str, ↓isi_dic_list, ↓isi_dic_tuple, ↓isi_dic_dict, if_true, if_false, Bool.not_true, Bool.not_false, true_and, and_true, reduceCtorEq, Bool.true_eq_false, Bool.false_eq_true, ite_true, ite_false, ↓exAny, ↓isLst_l, Int.toNat_natCast, Int.reduceToNat, dVar_e, sPar_e, sPar3_e, sAug_e])))
local macro_rules | `(tactic| walk_at "dls") => `(tactic| ((try simp only [gstart, gwipe, List.set_set, List.map_cons, List.map_nil, List.length_cons, List.length_nil, rep_0, rep_s, List.cons_append, List.nil_append, List.set_cons_zero, List.set_cons_succ, Nat.reduceAdd, Nat.reduceSub, Nat.zero_add, Nat.add_zero]); (try simp only [*, ↓dv0, ↓dv1, ↓dv2, ↓dv3, ↓dv4, ↓dv5, ↓dv6, ↓dv7, ↓dv8, ↓dv9, ↓dv10, ↓dv11, ↓dv12, ↓dv13, ↓dv14, ↓dv15, ↓dv16, ↓dv17, ↓dv18, ↓dv19, ↓dv20, ↓dv21, ↓dv22, ↓dv23, ↓dv24, ↓dv25, ↓dv26, ↓dv27, ↓dv28, ↓dv29, ↓dv30, ↓dv31, ↓dv32, ↓dv33, ↓dv34, ↓dv35, ↓dv36, ↓dv37, ↓dv38, ↓dv39, ↓nm0, ↓nm1, ↓nm2, ↓nm3, ↓nm4, ↓nm5, ↓nm6, ↓nm7, ↓nm8, ↓nm9, ↓nm10, ↓nm11, ↓nm12, ↓nm13, ↓nm14, ↓nm15, ↓nm16, ↓nm17, ↓nm18, ↓nm19, ↓nm20, ↓nm21, ↓nm22, ↓nm23, ↓nm24, ↓nm25, ↓nm26, ↓nm27, ↓nm28, ↓nm29, ↓nm30, ↓nm31, ↓nm32, ↓nm33, ↓nm34, ↓nm35, ↓nm36, ↓nm37, ↓nm38, ↓nm39, ↓sPar_n, ↓sPar3_n, ↓sAug_n, ↓reduceIte, List.set_set, ↓sNext_e, ↓sSeq_e, ↓sBrk_e, ↓sCnt_e, ↓sDrop_e, ↓sRet_e, ↓sRetN_e, ↓sIf_e, ↓sAsg_e, ↓sRaise_e, ↓nmG_e, ↓tupG_e, ↓gsNil_e, ↓gsCons_e, ↓subG_e, ↓dC_e, ↓dOp_e, ↓dUn_e, ↓dChain_e, ↓bOf_e, ↓bAnd_e, ↓bOr_e, ↓bNot_e, ↓bYes_e, ↓dAnd_e, ↓dOr_e, ↓dNot_e, ↓dIf_e, ↓lNil_e, ↓lCons_e, ↓dLst_e, ↓dDic0_e, ↓dDic1_e, ↓dLenSetG_e, dIsB_b, ↓dLstO_e, ↓dTup_e, ↓dCB_e, ↓dCall_e, ↓dCallK_e, ↓oNone_e, ↓oSome_e, ↓dSl_e, ↓dBM_e, ↓dBM0_e, ↓dFz_e, ↓dFz2_e, ↓d2_e, ↓dLone_e, ↓lStar_e, ↓dCallA_e, ↓dMakeA_e, ↓dMakeV_e, ↓dMethA_e, ↓dCMethA_e, ↓dPropA_e, ↓dFld_e, ↓sFldS_e, ↓dFzI_e, ↓fzID_o, ↓dM1_e, ↓dM0_e, ↓dRev_e, ↓mSplit_s, ↓mUpper_s, ↓exStr, ↓exZ, ↓cStrI_i, ↓cIntS_s, ↓iStrD_e, ↓dEqF_s, ↓dNeF_s, ↓dEqF_i, ↓dNeF_i, ↓dSign_s, ↓sRaiseI_e, ↓dXFld_e, ↓mPop_e, ↓dAddO_l, ↓dAddO_o, ↓dMk0_e, ↓sKeep_e, ↓sTryH_e, ↓dCVal_e, ↓dConI_e, ↓cLen_s, ↓dIx_s, ↓dSlS_s, ↓dAdd_s, ↓cTup_l, ↓pkP_e, ↓pkS_e, ↓lstG_e, ↓asI_i, ↓iSeq_e, ↓iTupD_e, ↓iRg1_e, ↓iRg2_e, ↓iZipD_e, iZrD_e, ↓iEnumD_e, ↓sFor_e, ↓dLc_e, ↓finF_e, ↓finO_e, ↓fzD_l, ↓fzD_i, ↓fzD_o, ↓fzD2_o, ↓dSetO_e, ↓mAppend_e, ↓mClear_e, ↓mReverse_e, List.map_cons, List.map_nil, List.length_cons, List.length_nil, rep_0, rep_s, List.cons_append, List.nil_append, List.getElem?_cons_zero, List.getElem?_cons_succ, List.set_cons_zero, List.set_cons_succ, Nat.reduceAdd, Nat.reduceSub, Nat.zero_add, Nat.add_zero, ↓exSS, ↓exB, ↓exI, ↓ex1, ↓ex2, ↓ex3, ↓exI1, ↓exI2, ↓exT, ↓exC, ↓exAs, ↓dAdd_i, ↓dAddI_i, ↓dSubI_i, ↓dLRg_e, ↓dIsiT_e, ↓dLenSet_e, ↓bChain3_e, ↓dLRg2_e, ↓iRg3_e, ↓dLc2_e, ↓dSlT_t, dAddT_t, ↓dNewK_e, ↓dDis1_e, ↓sDkp_e, ↓dDGet_e, ↓dDGet2_e, ↓dLVals_e, ↓kD_ex_i, ↓dSS_e, ↓dST_e, ↓dSI_e, ↓lsG_e, ↓dMulI_i, ↓dNew_e, ↓sDct_e, ↓dMulO_l, ↓dLRgO_e, ↓dAdd_l, ↓dSub_i, ↓dMul_i, ↓dMul_l, ↓dMod_i, ↓dDiv_i, ↓dPow_i, ↓dLt_i, ↓dLe_i, ↓dGt_i, ↓dGe_i, ↓uNeg_i, ↓cMax2_i, ↓cMin2_i, ↓cAbs_i, ↓cInt_i, ↓cInt_b, ↓cLen_l, ↓cLen_q, ↓cLen_t, ↓cList_l, ↓cList_q, ↓cList_t, ↓cListO_l, ↓cListO_t, ↓dIx_l, ↓dIx_q, ↓dIx_t, ↓dIx_o', ↓exS, ↓exL, at_1, at_2, at_3, at_4, ix30, ix31, ix32, ↓dSlL_l, ↓dSlL_q, ↓asQ_l, ↓asL_l, at_0, ↓isi_non_int, ↓isi_non_bool, ↓isi_non_str, ↓isi_non_list, ↓isi_non_tuple, ↓isi_non_dict, ↓isi_bl_int, ↓isi_bl_bool, ↓isi_bl_str, ↓isi_bl_list, ↓isi_bl_tuple, ↓isi_bl_dict, ↓isi_int_int, ↓isi_int_bool, ↓isi_int_str, ↓isi_int_list, ↓isi_int_tuple, ↓isi_int_dict, ↓isi_str_int, ↓isi_str_bool, ↓isi_str_str, ↓isi_str_list, ↓isi_str_tuple, ↓isi_str_dict, ↓isi_lst_int, ↓isi_lst_bool, ↓isi_lst_str, ↓isi_lst_list, ↓isi_lst_tuple, ↓isi_lst_dict, ↓isi_sq_int, ↓isi_sq_bool, ↓isi_sq_str, ↓isi_sq_list, ↓isi_sq_tuple, ↓isi_sq_dict, ↓isi_tup_int, ↓isi_tup_bool, ↓isi_tup_str, ↓isi_tup_list, ↓isi_tup_tuple, ↓isi_tup_dict, ↓isi_dic_int, ↓isi_dic_bool, ↓isi_dic_str, ↓isi_dic_list, ↓isi_dic_tuple, ↓isi_dic_dict, if_true, if_false, Bool.not_true, Bool.not_false, true_and, and_true, reduceCtorEq, Bool.true_eq_false, Bool.false_eq_true, ite_true, ite_false, ↓exAny, ↓isLst_l, Int.toNat_natCast, Int.reduceToNat, dVar_e, sPar_e, sPar3_e, sAug_e])))
--MI
theorem lc_filtS {α : Type} {src : Src} {G : TGd} {C : TB} {Te : TD} {vs : List Nat} {Fin : List D → Sto → KD → Prop} {Γ : Gam} {S : Sto} {Φ : KD} (xs : List α) (f g : α → D) (p : α → Bool) (hsrc : src S = some (xs.map f)) (hl : xs.length ≤ sizeLine) (hs : ∀ x ∈ xs, ∀ (A : KD) (N : Sto → Prop), (p x = true → A S (g x)) → (p x = false → N S) → G (f x) (gwipe Γ vs) S fun Γ2 S2 => C Γ2 S2 (fun S3 k => if k = true then Te Γ2 S3 A (fun _ _ => False) else N S3) (fun _ _ => False)) (hd : Fin ((xs.filter p).map g) S Φ) : lcP src G C Te vs Fin Γ S Φ := by
  refine lc_s (ds := xs.map f) (fun i acc S' => S' = S ∧ acc = ((xs.take i).filter p).map g) (by rw [List.length_map]; exact hl) ⟨rfl, rfl⟩ (fun i acc S' hp => hp.1 ▸ hsrc) (fun i acc S' hi hp => ?_) fun acc S' hp => ?_
  · obtain ⟨rfl, rfl⟩ := hp
    rw [List.length_map] at hi
    rw [List.getElem_map]
    have e : xs.take (i + 1) = xs.take i ++ [xs[i]] := by rw [List.take_add_one, List.getElem?_eq_getElem hi]; rfl
    refine hs _ (List.getElem_mem hi) _ _ (fun hp => ⟨rfl, ?_⟩) fun hp => ⟨rfl, ?_⟩
    · rw [e, List.filter_append, List.map_append, List.filter_cons_of_pos hp]
      rfl
    · rw [e, List.filter_append, List.filter_cons_of_neg (by rw [hp]; exact Bool.false_ne_true)]
      simp
  · obtain ⟨rfl, rfl⟩ := hp
    rw [List.length_map, List.take_length]
    exact hd
def entD (ks : List (Int × Int)) : List (Key × D) := ks.map fun p => (.inl p.1, .int p.2)
theorem pKD_new {acc : List (Key × D)} {k : Key} {z : D} (h : ∀ q ∈ acc, q.1 ≠ k) : pKD acc k z = acc ++ [(k, z)] := by
  unfold pKD
  rw [if_neg]
  intro c
  obtain ⟨q, hq, e⟩ := List.any_eq_true.mp c
  exact h q hq (of_decide_eq_true e)
theorem ent_vals (ks : List (Int × Int)) : (entD ks).map (·.2) = (ks.map (·.2)).map D.int := by
  unfold entD
  rw [List.map_map, List.map_map]
  rfl
theorem ent_len (ks : List (Int × Int)) : (entD ks).length = ks.length := by unfold entD; rw [List.length_map]
theorem ent_new {ks : List (Int × Int)} {k : Int} (h : ∀ p ∈ ks, p.1 ≠ k) {z : Int} : pKD (entD ks) (.inl k) (.int z) = entD (ks ++ [(k, z)]) := by
  rw [pKD_new]
  · unfold entD; rw [List.map_append]; rfl
  · intro q hq
    obtain ⟨p, hp, rfl⟩ := List.mem_map.mp hq
    intro e
    exact h p hp (Sum.inl.inj e)
/-- x = {k: f(k, v) for k, v in d.items() if ..} -/
theorem lck_run {i j h : Nat} {G : TGd} {C : TB} {Tk Tv : TD} {vs : List Nat} {Γ : Gam} {S : Sto} {E : EdD} (ks : List (Int × Int)) (hn : (ks.map (·.1)).Nodup) (e : Γ[i]? = some (some (.own h))) (es : S[h]? = some (.dck (entD ks))) (hl : ks.length ≤ 1000000) (p : Int × Int → Bool) (f : Int × Int → Int)
    (hs : ∀ (S1 : Sto) (x : Int × Int), x ∈ ks → ∀ (R : Key → D → Sto → Prop) (N : Sto → Prop), (p x = true → R (.inl x.1) (.int (f x)) S1) → (p x = false → N S1) → G (.tup [.int x.1, .int x.2]) (gwipe Γ vs) S1 fun Γ2 S2 => C Γ2 S2 (fun S3 b => if b = true then Tk Γ2 S3 (fun S4 y => Tv Γ2 S4 (fun S5 z => ∃ k, y = kD k ∧ R k z S5) (fun _ _ => False)) (fun _ _ => False) else N S3) (fun _ _ => False))
    (hd : E.nx (Γ.set j (some (.own S.length))) (S ++ [.dck (entD ((ks.filter p).map fun x => (x.1, f x)))])) : sLck i (sAsg (dDc (iItD i) G C Tk Tv vs) (nmG j)) E Γ S := by
  have hlt : h < S.length := (List.getElem?_eq_some_iff.mp es).1
  refine ⟨h, entD ks, e, es, fun o us hus => ?_⟩
  have e1 : (S.set h (.lck o us (entD ks)))[h]? = some (.lck o us (entD ks)) := List.getElem?_set_self hlt
  have src1 : srcL h o us (S.set h (.lck o us (entD ks))) = some (ks.map fun p => D.tup [.int p.1, .int p.2]) := by
    rw [srcL_eq e1]
    unfold entD
    rw [List.map_map]
    rfl
  refine ⟨h, o, us, entD ks, e, e1, fun m acc S' => S' = S.set h (.lck o us (entD ks)) ∧ acc = entD (((ks.take m).filter p).map fun x => (x.1, f x)), ks.length, hl, ⟨rfl, rfl⟩, fun m acc S' _ hp => ⟨ks.map fun p => D.tup [.int p.1, .int p.2], hp.1 ▸ src1, by rw [List.length_map]⟩, fun m acc S' ds d hp hsrc hd2 => ?_, fun acc S' hp => ?_⟩
  · obtain ⟨rfl, rfl⟩ := hp
    rw [src1] at hsrc
    cases hsrc
    rw [List.getElem?_map] at hd2
    obtain ⟨x, hx, rfl⟩ := Option.map_eq_some_iff.mp hd2
    have tk : ks.take (m + 1) = ks.take m ++ [x] := by rw [List.take_add_one, hx]; rfl
    have hm : m < ks.length := (List.getElem?_eq_some_iff.mp hx).1
    have fresh : ∀ q ∈ ks.take m, q.1 ≠ x.1 := fun q hq eq => by
      obtain ⟨a, ha, ea⟩ := List.getElem_of_mem hq
      rw [List.length_take] at ha
      have n1 := List.pairwise_iff_getElem.mp hn a m (by rw [List.length_map]; omega) (by rw [List.length_map]; omega) (by omega)
      rw [List.getElem_map, List.getElem_map] at n1
      rw [List.getElem_take] at ea
      rw [ea, (List.getElem?_eq_some_iff.mp hx).2] at n1
      exact n1 eq
    refine hs _ x (List.mem_of_getElem? hx) (fun k z S5 => S5 = S.set h (.lck o us (entD ks)) ∧ pKD (entD (((ks.take m).filter p).map fun x => (x.1, f x))) k z = entD (((ks.take (m + 1)).filter p).map fun x => (x.1, f x))) _ (fun hp => ⟨rfl, ?_⟩) fun hp => ⟨rfl, ?_⟩
    · rw [tk, List.filter_append, List.filter_cons_of_pos hp, List.filter_nil, List.map_append, ent_new]
      · rfl
      · intro q hq
        obtain ⟨y, hy, rfl⟩ := List.mem_map.mp hq
        exact fresh y (List.mem_filter.mp hy).1
    · rw [tk, List.filter_append, List.filter_cons_of_neg (by rw [hp]; exact Bool.false_ne_true), List.filter_nil, List.append_nil]
  · obtain ⟨rfl, rfl⟩ := hp
    rw [List.take_length]
    refine ⟨?_, ?_⟩
    · rw [List.getElem?_append_left (by rw [List.length_set]; exact hlt)]; exact e1
    · rw [List.set_append_left _ _ (by rw [List.length_set]; exact hlt), List.set_set, List.length_set]
      have e2 : S.set h (.dck (entD ks)) = S := List.ext_getElem? fun a => by
        by_cases c : h = a
        · subst c; rw [List.getElem?_set_self hlt, es]
        · rw [List.getElem?_set_ne c]
      rw [e2]
      exact hd
theorem foldl_max_of {ns : List Int} : ∀ {m0 m : Int}, (∀ x ∈ ns, x ≤ m) → m0 ≤ m → (m = m0 ∨ m ∈ ns) → ns.foldl max m0 = m := by
  induction ns with
  | nil => intro m0 m _ _ h; rcases h with h | h
           · exact h.symm
           · cases h
  | cons x xs ih =>
    intro m0 m h1 h2 h3
    rw [List.foldl_cons]
    have hx := h1 x List.mem_cons_self
    refine ih (fun y hy => h1 y (List.mem_cons_of_mem _ hy)) (by omega) ?_
    rcases h3 with h3 | h3
    · exact .inl (by omega)
    · rcases List.mem_cons.mp h3 with h3 | h3
      · exact .inl (by omega)
      · exact .inr h3
/-- what holds of the counts -/
structure CmOk (w : Int) (i : Nat) (ks : List (Int × Int)) : Prop where
  key : ∀ p ∈ ks, p.1 < i
  val : ∀ p ∈ ks, 0 ≤ p.2
  nd : (ks.map (·.1)).Nodup
  len : ks.length ≤ i + 1
  sum : (ks.map (·.2)).sum ≤ (w + 1) ^ i
theorem sum_nn {ks : List (Int × Int)} (h : ∀ p ∈ ks, 0 ≤ p.2) : 0 ≤ (ks.map (·.2)).sum := by
  induction ks with
  | nil => exact Int.le_refl _
  | cons p ks ih =>
    rw [List.map_cons, List.sum_cons]
    have := h p List.mem_cons_self
    have := ih fun q hq => h q (List.mem_cons_of_mem _ hq)
    omega
theorem sum_at {ks : List (Int × Int)} (h : ∀ p ∈ ks, 0 ≤ p.2) : ∀ p ∈ ks, p.2 ≤ (ks.map (·.2)).sum := by
  induction ks with
  | nil => intro p hp; cases hp
  | cons q ks ih =>
    intro p hp
    rw [List.map_cons, List.sum_cons]
    have h1 := h q List.mem_cons_self
    have h2 := sum_nn fun r hr => h r (List.mem_cons_of_mem q hr)
    rcases List.mem_cons.mp hp with e | m
    · rw [e]; omega
    · have := ih (fun r hr => h r (List.mem_cons_of_mem _ hr)) p m
      omega
theorem sum_filter {ks : List (Int × Int)} (p : Int × Int → Bool) (h : ∀ q ∈ ks, 0 ≤ q.2) : ((ks.filter p).map (·.2)).sum ≤ (ks.map (·.2)).sum := by
  induction ks with
  | nil => exact Int.le_refl _
  | cons q ks ih =>
    have h1 := h q List.mem_cons_self
    have ih := ih fun r hr => h r (List.mem_cons_of_mem _ hr)
    rw [List.filter_cons]
    split
    · rw [List.map_cons, List.map_cons, List.sum_cons, List.sum_cons]; omega
    · rw [List.map_cons, List.sum_cons]; omega
theorem sum_mul (w : Int) : ∀ ks : List (Int × Int), ((ks.map fun p => (p.1, p.2 * w)).map (·.2)).sum = (ks.map (·.2)).sum * w
  | [] => by simp
  | p :: ks => by
    rw [List.map_cons, List.map_cons, List.map_cons, List.sum_cons, List.sum_cons, sum_mul w ks, Int.add_mul]
theorem later_ok {w : Int} (hw : 0 ≤ w) {i : Nat} {ks : List (Int × Int)} (ok : CmOk w i ks) : CmOk w (i + 1) (laterC w ks i) := by
  have nn := sum_nn ok.val
  unfold laterC
  refine ⟨fun p hp => ?_, fun p hp => ?_, ?_, ?_, ?_⟩
  · rcases List.mem_append.mp hp with m | m
    · obtain ⟨q, hq, rfl⟩ := List.mem_map.mp m
      have : q.1 < (i : Int) := ok.key q hq
      show q.1 < ((i + 1 : Nat) : Int)
      omega
    · rw [List.mem_singleton.mp m]
      show (i : Int) < ((i + 1 : Nat) : Int)
      omega
  · rcases List.mem_append.mp hp with m | m
    · obtain ⟨q, hq, rfl⟩ := List.mem_map.mp m
      exact Int.mul_nonneg (ok.val q hq) hw
    · rw [List.mem_singleton.mp m]
      exact nn
  · rw [List.map_append, List.map_map]
    refine List.nodup_append.mpr ⟨ok.nd, by simp, fun a ha b hb e => ?_⟩
    obtain ⟨q, hq, rfl⟩ := List.mem_map.mp ha
    have h1 : q.1 < (i : Int) := ok.key q hq
    simp at hb
    have e : q.1 = b := e
    omega
  · rw [List.length_append, List.length_map]
    have := ok.len
    show ks.length + 1 ≤ _
    omega
  · rw [List.map_append, List.sum_append, sum_mul]
    show (ks.map (·.2)).sum * w + ((ks.map (·.2)).sum + 0) ≤ (w + 1) ^ (i + 1)
    rw [Int.add_zero, Int.pow_succ, show (ks.map (·.2)).sum * w + (ks.map (·.2)).sum = (ks.map (·.2)).sum * (w + 1) by rw [Int.mul_add, Int.mul_one]]
    exact Int.mul_le_mul_of_nonneg_right ok.sum (by omega)
theorem filter_ok {w : Int} {i : Nat} {ks : List (Int × Int)} (ok : CmOk w i ks) (p : Int × Int → Bool) : CmOk w i (ks.filter p) :=
  ⟨fun q hq => ok.key q (List.mem_filter.mp hq).1, fun q hq => ok.val q (List.mem_filter.mp hq).1, ok.nd.sublist (List.filter_sublist.map _), Nat.le_trans (List.length_filter_le _ _) ok.len, Int.le_trans (sum_filter p ok.val) ok.sum⟩
theorem cm_ok {sp : List (Nat × Nat)} {w : Int} (hw : 0 ≤ w) : ∀ i, CmOk w i (cmL sp w i)
  | 0 => ⟨fun p hp => by rw [List.mem_singleton.mp hp]; decide, fun p hp => by rw [List.mem_singleton.mp hp]; decide, (by show [(-1 : Int)].Nodup; simp), Nat.le_refl _, by show (1 : Int) + 0 ≤ (w + 1) ^ 0; rw [Int.pow_zero]; decide⟩
  | i + 1 => filter_ok (later_ok hw (cm_ok hw i)) _
theorem pow_bnd {w : Int} (hw : 0 ≤ w) (hw1 : w ≤ MOST) : ∀ {i : Nat}, i ≤ 60 → (w + 1) ^ i < 2 ^ (100 * i + 1) := fun {i} hi => by
  have h1 : w + 1 < 2 ^ 100 := Int.lt_of_le_of_lt (show w + 1 ≤ MOST + 1 by omega) (by decide)
  have h2 : ∀ k : Nat, (w + 1) ^ k ≤ (2 ^ 100) ^ k := fun k => by
    induction k with
    | zero => simp
    | succ k ih =>
      rw [Int.pow_succ, Int.pow_succ]
      exact Int.mul_le_mul ih (by omega) (by omega) (Int.pow_nonneg (by decide))
  refine Int.lt_of_le_of_lt (h2 i) ?_
  rw [← Int.pow_mul]
  exact_mod_cast Nat.pow_lt_pow_right (by decide) (Nat.lt_succ_self (100 * i))
theorem log_bnd {x : Int} {k : Nat} (h0 : 0 ≤ x) (h : x < 2 ^ k) : x.natAbs.log2 ≤ k := by
  have h1 : x.natAbs < 2 ^ k := by
    have : ((x.natAbs : Nat) : Int) < ((2 ^ k : Nat) : Int) := by
      rw [Int.natAbs_of_nonneg h0]
      exact_mod_cast h
    exact Int.ofNat_lt.mp this
  by_cases z : x.natAbs = 0
  · rw [z]; exact Nat.zero_le _
  · exact Nat.le_of_lt ((Nat.log2_lt z).mpr h1)
theorem cmul_nn {x y : Int} {a b : Nat} (h0 : 0 ≤ x) (h1 : x < 2 ^ a) (h2 : 0 ≤ y) (h3 : y < 2 ^ b) (h : a + b < 1000000) : CMulA x y := by
  refine .inr ?_
  show x.natAbs.log2 + y.natAbs.log2 < 1000000
  have := log_bnd h0 h1
  have := log_bnd h2 h3
  omega
theorem p_count_marked : Rets sp_count_marked T_count_marked N_count_marked := by
  rintro _ S Φ Ψ ⟨d, n, sp, w, rfl, hn, hw0, hw1, hl, ed, q⟩
  unfold T_count_marked
  walk_at "dl"
  refine ⟨by omega, by omega, ?_⟩
  refine for_r0 (fun i Γ S' => ∃ (X : Sto) (h : Nat) (o4 o5 o6 o7 o8 o9 o10 : Option D), S' = S ++ X ∧ h < X.length ∧ X[h]? = some (.dck (entD (cmL sp w i))) ∧ Γ = [some (.int n), some d, some (.int w), some (.own (S.length + h)), o4, o5, o6, o7, o8, o9, o10])
    ⟨[.dck (entD (cmL sp w 0))], 0, _, _, _, _, _, _, _, rfl, Nat.zero_lt_one, rfl, rfl⟩ (fun i Γ' S' hi hp => ?_) fun Γ' S' hp => ?_
  · obtain ⟨X, h, o4, o5, o6, o7, o8, o9, o10, rfl, hX, eX, rfl⟩ := hp
    have ok := cm_ok (sp := sp) hw0 i
    have lok := later_ok hw0 ok
    have eS : (S ++ X)[S.length + h]? = some (.dck (entD (cmL sp w i))) := by rw [List.getElem?_append_right (Nat.le_add_right _ _), Nat.add_sub_cancel_left]; exact eX
    have kl : (cmL sp w i).length ≤ 1000000 := by have := ok.len; omega
    have pb := pow_bnd hw0 hw1 (i := i) (by omega)
    have val : ∀ x ∈ cmL sp w i, 0 ≤ x.2 ∧ x.2 < 2 ^ (100 * i + 1) := fun x hx => ⟨ok.val x hx, Int.lt_of_le_of_lt (Int.le_trans (sum_at ok.val x hx) ok.sum) pb⟩
    have wb : w < 2 ^ 100 := Int.lt_of_le_of_lt hw1 (by decide)
    walk_at "dl"
    refine lck_run (cmL sp w i) ok.nd rfl eS kl (fun _ => true) (fun x => x.2 * w) (fun S1 x hx R N h1 _ => ?_) ?_
    · walk_at "dl"
      exact ⟨cmul_nn (val x hx).1 (val x hx).2 hw0 wb (by omega), h1 rfl⟩
    · rw [List.filter_eq_self.mpr (fun _ _ => rfl)]
      walk_at "dl"
      have set_last : ∀ (A : Sto) (c c' : Cell), (A ++ [c]).set A.length c' = A ++ [c'] := fun A c c' => by
        rw [List.set_append_right _ _ (Nat.le_refl _), Nat.sub_self]; rfl
      have get_last : ∀ (A : Sto) (c : Cell), (A ++ [c])[A.length]? = some c := fun A c => by
        rw [List.getElem?_append_right (Nat.le_refl _), Nat.sub_self]; rfl
      refine ⟨_, _, rfl, get_app eS, ?_⟩
      rw [ent_vals]
      refine ⟨_, rfl, _, _, .inl (i : Int), rfl, rfl, get_last _ _, by rw [ent_len, List.length_map]; have := ok.len; omega, ?_⟩
      rw [set_last, ent_new (fun p hp => by
        obtain ⟨r, hr, rfl⟩ := List.mem_map.mp hp
        have := ok.key r hr
        show r.1 ≠ (i : Int)
        omega)]
      have el : (List.map (fun x => (x.1, x.2 * w)) (cmL sp w i)) ++ [((i : Int), ((cmL sp w i).map (·.2)).sum)] = laterC w (cmL sp w i) i := rfl
      rw [el]
      have ed2 : asL (S ++ X ++ [Cell.dck (entD (laterC w (cmL sp w i) i))]) d = some (sp.map spD) := asL_app (asL_app ed)
      refine ⟨⟨_, asQ_L ed2⟩, ?_⟩
      refine lc_filtS sp spD (fun p => .int (p.1 : Nat)) (fun p => decide (p.2 = i)) (asQ_L ed2) (small (by omega)) (fun x hx A N h1 h2 => ?_) ?_
      · walk_at "dl"
        by_cases c : x.2 = i
        · rw [if_pos (by rw [c]; exact beq_self_eq_true _)]
          exact h1 (decide_eq_true c)
        · rw [if_neg (by rw [beq_iff_eq]; omega)]
          exact h2 (decide_eq_false c)
      · walk_at "dl"
        refine ⟨small, small (by rw [List.length_map]; have := List.length_filter_le (fun p : Nat × Nat => decide (p.2 = i)) sp; omega), ?_⟩
        refine ⟨(sp.filter fun p => decide (p.2 = i)).map (fun p => (p.1 : Int)) ++ [-1], by rw [List.map_append, List.map_map]; rfl, by rw [List.length_append]; exact Nat.succ_pos _, fun m hm hy => ?_⟩
        have em : needF sp i = m := by
          unfold needF
          refine foldl_max_of (fun x hx => hy x (List.mem_append_left _ hx)) (hy (-1) (List.mem_append_right _ (List.mem_singleton.mpr rfl))) ?_
          rcases List.mem_append.mp hm with z | z
          · exact .inr z
          · exact .inl (List.mem_singleton.mp z)
        subst em
        have eL : (S ++ X ++ [Cell.dck (entD (laterC w (cmL sp w i) i))])[(S ++ X).length]? = some (.dck (entD (laterC w (cmL sp w i) i))) := get_last _ _
        refine lck_run (laterC w (cmL sp w i) i) lok.nd rfl eL (by have := lok.len; omega) (fun p => decide (needF sp i ≤ p.1)) (fun x => x.2) (fun S1 x hx R N h1 h2 => ?_) ?_
        · walk_at "dl"
          by_cases c : needF sp i ≤ x.1
          · rw [if_pos (by rw [decide_eq_true_eq]; exact c)]
            walk_at "dl"
            exact h1 (decide_eq_true c)
          · rw [if_neg (by rw [decide_eq_true_eq]; exact c)]
            exact h2 (decide_eq_false c)
        · have em2 : ((laterC w (cmL sp w i) i).filter fun p => decide (needF sp i ≤ p.1)).map (fun x => (x.1, x.2)) = cmL sp w (i + 1) := by
            show _ = stepC sp w (cmL sp w i) i
            unfold stepC
            exact List.map_id _
          rw [em2]
          refine ⟨X ++ [Cell.dck (entD (laterC w (cmL sp w i) i))] ++ [Cell.dck (entD (cmL sp w (i + 1)))], (X ++ [Cell.dck (entD (laterC w (cmL sp w i) i))]).length, some (.int i), some (.own (S ++ X).length), some (.int (needF sp i)), o7, o8, o9, o10, by simp only [List.append_assoc], by simp, get_last _ _, ?_⟩
          have el2 : (S ++ X ++ [Cell.dck (entD (laterC w (cmL sp w i) i))]).length = S.length + (X ++ [Cell.dck (entD (laterC w (cmL sp w i) i))]).length := by rw [List.append_assoc, List.length_append]
          rw [el2]
          rfl
  · obtain ⟨X, h, o4, o5, o6, o7, o8, o9, o10, rfl, hX, eX, rfl⟩ := hp
    walk_at "dl"
    have eS : (S ++ X)[S.length + h]? = some (.dck (entD (cmL sp w n))) := by rw [List.getElem?_append_right (Nat.le_add_right _ _), Nat.add_sub_cancel_left]; exact eX
    refine ⟨_, _, rfl, eS, ?_⟩
    rw [ent_vals]
    exact ⟨_, rfl, ret_cut rfl q⟩
end DL
namespace DL
open PySem PySem.Spec PyProof.Rows L2
local macro_rules | `(tactic| walk_at "dl") => `(tactic| ((try simp only [gstart, gwipe, List.set_set, List.map_cons, List.map_nil, List.length_cons, List.length_nil, rep_0, rep_s, List.cons_append, List.nil_append, List.set_cons_zero, List.set_cons_succ, Nat.reduceAdd, Nat.reduceSub, Nat.zero_add, Nat.add_zero]); (try simp only [↓dv0, ↓dv1, ↓dv2, ↓dv3, ↓dv4, ↓dv5, ↓dv6, ↓dv7, ↓dv8, ↓dv9, ↓dv10, ↓dv11, ↓dv12, ↓dv13, ↓dv14, ↓dv15, ↓dv16, ↓dv17, ↓dv18, ↓dv19, ↓dv20, ↓dv21, ↓dv22, ↓dv23, ↓dv24, ↓dv25, ↓dv26, ↓dv27, ↓dv28, ↓dv29, ↓dv30, ↓dv31, ↓dv32, ↓dv33, ↓dv34, ↓dv35, ↓dv36, ↓dv37, ↓dv38, ↓dv39, ↓nm0, ↓nm1, ↓nm2, ↓nm3, ↓nm4, ↓nm5, ↓nm6, ↓nm7, ↓nm8, ↓nm9, ↓nm10, ↓nm11, ↓nm12, ↓nm13, ↓nm14, ↓nm15, ↓nm16, ↓nm17, ↓nm18, ↓nm19, ↓nm20, ↓nm21, ↓nm22, ↓nm23, ↓nm24, ↓nm25, ↓nm26, ↓nm27, ↓nm28, ↓nm29, ↓nm30, ↓nm31, ↓nm32, ↓nm33, ↓nm34, ↓nm35, ↓nm36, ↓nm37, ↓nm38, ↓nm39, ↓sPar_n, ↓sPar3_n, ↓sAug_n, ↓reduceIte, List.set_set, ↓sNext_e, ↓sSeq_e, ↓sBrk_e, ↓sCnt_e, ↓sDrop_e, ↓sRet_e, ↓sRetN_e, ↓sIf_e, ↓sAsg_e, ↓sRaise_e, ↓nmG_e, ↓tupG_e, ↓gsNil_e, ↓gsCons_e, ↓subG_e, ↓dC_e, ↓dOp_e, ↓dUn_e, ↓dChain_e, ↓bOf_e, ↓bAnd_e, ↓bOr_e, ↓bNot_e, ↓bYes_e, ↓dAnd_e, ↓dOr_e, ↓dNot_e, ↓dIf_e, ↓lNil_e, ↓lCons_e, ↓dLst_e, ↓dDic0_e, ↓dDic1_e, ↓dLenSetG_e, dIsB_b, ↓dLstO_e, ↓dTup_e, ↓dCB_e, ↓dCall_e, ↓dCallK_e, ↓oNone_e, ↓oSome_e, ↓dSl_e, ↓dBM_e, ↓dBM0_e, ↓dFz_e, ↓dFz2_e, ↓d2_e, ↓dLone_e, ↓lStar_e, ↓dCallA_e, ↓dMakeA_e, ↓dMakeV_e, ↓dMethA_e, ↓dCMethA_e, ↓dPropA_e, ↓dFld_e, ↓sFldS_e, ↓dFzI_e, ↓fzID_o, ↓dM1_e, ↓dM0_e, ↓dRev_e, ↓mSplit_s, ↓mUpper_s, ↓exStr, ↓exZ, ↓cStrI_i, ↓cIntS_s, ↓iStrD_e, ↓dEqF_s, ↓dNeF_s, ↓dEqF_i, ↓dNeF_i, ↓dSign_s, ↓sRaiseI_e, ↓dXFld_e, ↓mPop_e, ↓dAddO_l, ↓dAddO_o, ↓dMk0_e, ↓sKeep_e, ↓sTryH_e, ↓dCVal_e, ↓dConI_e, ↓cLen_s, ↓dIx_s, ↓dSlS_s, ↓dAdd_s, ↓cTup_l, ↓pkP_e, ↓pkS_e, ↓lstG_e, ↓asI_i, ↓iSeq_e, ↓iTupD_e, ↓iRg1_e, ↓iRg2_e, ↓iZipD_e, iZrD_e, ↓iEnumD_e, ↓sFor_e, ↓dLc_e, ↓finF_e, ↓finO_e, ↓fzD_l, ↓fzD_i, ↓fzD_o, ↓fzD2_o, ↓dSetO_e, ↓mAppend_e, ↓mClear_e, ↓mReverse_e, List.map_cons, List.map_nil, List.length_cons, List.length_nil, rep_0, rep_s, List.cons_append, List.nil_append, List.getElem?_cons_zero, List.getElem?_cons_succ, List.set_cons_zero, List.set_cons_succ, Nat.reduceAdd, Nat.reduceSub, Nat.zero_add, Nat.add_zero, ↓exSS, ↓exB, ↓exI, ↓ex1, ↓ex2, ↓ex3, ↓exI1, ↓exI2, ↓exT, ↓exC, ↓exAs, ↓dAdd_i, ↓dAddI_i, ↓dSubI_i, ↓dLRg_e, ↓dIsiT_e, ↓dLenSet_e, ↓bChain3_e, ↓dLRg2_e, ↓iRg3_e, ↓dLc2_e, ↓dSlT_t, dAddT_t, ↓dNewK_e, ↓dDis1_e, ↓sDkp_e, ↓dDGet_e, ↓dDGet2_e, ↓dLVals_e, ↓kD_ex_i, ↓dSS_e, ↓dST_e, ↓dSI_e, ↓lsG_e, ↓dMulI_i, ↓dNew_e, ↓sDct_e, ↓dMulO_l, ↓dLRgO_e, ↓dAdd_l, ↓dSub_i, ↓dMul_i, ↓dMul_l, ↓dMod_i, ↓dDiv_i, ↓dPow_i, ↓dLt_i, ↓dLe_i, ↓dGt_i, ↓dGe_i, ↓uNeg_i, ↓cMax2_i, ↓cMin2_i, ↓cAbs_i, ↓cInt_i, ↓cInt_b, ↓cLen_l, ↓cLen_q, ↓cLen_t, ↓cList_l, ↓cList_q, ↓cList_t, ↓cListO_l, ↓cListO_t, ↓dIx_l, ↓dIx_q, ↓dIx_t, ↓dIx_o', ↓exS, ↓exL, at_1, at_2, at_3, at_4, ix30, ix31, ix32, ↓dSlL_l, ↓dSlL_q, ↓asQ_l, ↓asL_l, at_0, ↓isi_non_int, ↓isi_non_bool, ↓isi_non_str, ↓isi_non_list, ↓isi_non_tuple, ↓isi_non_dict, ↓isi_bl_int, ↓isi_bl_bool, ↓isi_bl_str, ↓isi_bl_list, ↓isi_bl_tuple, ↓isi_bl_dict, ↓isi_int_int, ↓isi_int_bool, ↓isi_int_str, ↓isi_int_list, ↓isi_int_tuple, ↓isi_int_dict, ↓isi_str_int, ↓isi_str_bool, ↓isi_str_str, ↓isi_str_list, ↓isi_str_tuple, ↓isi_str_dict, ↓isi_lst_int, ↓isi_lst_bool, ↓isi_lst_str, ↓isi_lst_list, ↓isi_lst_tuple, ↓isi_lst_dict, ↓isi_sq_int, ↓isi_sq_bool, ↓isi_sq_str, ↓isi_sq_list, ↓isi_sq_tuple, ↓isi_sq_dict, ↓isi_tup_int, ↓isi_tup_bool, ↓isi_tup_str, ↓isi_tup_list, ↓isi_tup_tuple, ↓isi_tup_dict, ↓isi_dic_int, ↓isi_dic_bool, ↓isi_dic_str, ↓isi_dic_list, ↓isi_dic_tuple, ↓isi_dic_dict, if_true, if_false, Bool.not_true, Bool.not_false, true_and, and_true, reduceCtorEq, Bool.true_eq_false, Bool.false_eq_true, ite_true, ite_false, ↓exAny, ↓isLst_l, Int.toNat_natCast, Int.reduceToNat, dVar_e, sPar_e, sPar3_e, sAug_e])))
local macro_rules | `(tactic| walk_at "dls") => `(tactic| ((try simp only [gstart, gwipe, List.set_set, List.map_cons, List.map_nil, List.length_cons, List.length_nil, rep_0, rep_s, List.cons_append, List.nil_append, List.set_cons_zero, List.set_cons_succ, Nat.reduceAdd, Nat.reduceSub, Nat.zero_add, Nat.add_zero]); (try simp only [*, ↓dv0, ↓dv1, ↓dv2, ↓dv3, ↓dv4, ↓dv5, ↓dv6, ↓dv7, ↓dv8, ↓dv9, ↓dv10, ↓dv11, ↓dv12, ↓dv13, ↓dv14, ↓dv15, ↓dv16, ↓dv17, ↓dv18, ↓dv19, ↓dv20, ↓dv21, ↓dv22, ↓dv23, ↓dv24, ↓dv25, ↓dv26, ↓dv27, ↓dv28, ↓dv29, ↓dv30, ↓dv31, ↓dv32, ↓dv33, ↓dv34, ↓dv35, ↓dv36, ↓dv37, ↓dv38, ↓dv39, ↓nm0, ↓nm1, ↓nm2, ↓nm3, ↓nm4, ↓nm5, ↓nm6, ↓nm7, ↓nm8, ↓nm9, ↓nm10, ↓nm11, ↓nm12, ↓nm13, ↓nm14, ↓nm15, ↓nm16, ↓nm17, ↓nm18, ↓nm19, ↓nm20, ↓nm21, ↓nm22, ↓nm23, ↓nm24, ↓nm25, ↓nm26, ↓nm27, ↓nm28, ↓nm29, ↓nm30, ↓nm31, ↓nm32, ↓nm33, ↓nm34, ↓nm35, ↓nm36, ↓nm37, ↓nm38, ↓nm39, ↓sPar_n, ↓sPar3_n, ↓sAug_n, ↓reduceIte, List.set_set, ↓sNext_e, ↓sSeq_e, ↓sBrk_e, ↓sCnt_e, ↓sDrop_e, ↓sRet_e, ↓sRetN_e, ↓sIf_e, ↓sAsg_e, ↓sRaise_e, ↓nmG_e, ↓tupG_e, ↓gsNil_e, ↓gsCons_e, ↓subG_e, ↓dC_e, ↓dOp_e, ↓dUn_e, ↓dChain_e, ↓bOf_e, ↓bAnd_e, ↓bOr_e, ↓bNot_e, ↓bYes_e, ↓dAnd_e, ↓dOr_e, ↓dNot_e, ↓dIf_e, ↓lNil_e, ↓lCons_e, ↓dLst_e, ↓dDic0_e, ↓dDic1_e, ↓dLenSetG_e, dIsB_b, ↓dLstO_e, ↓dTup_e, ↓dCB_e, ↓dCall_e, ↓dCallK_e, ↓oNone_e, ↓oSome_e, ↓dSl_e, ↓dBM_e, ↓dBM0_e, ↓dFz_e, ↓dFz2_e, ↓d2_e, ↓dLone_e, ↓lStar_e, ↓dCallA_e, ↓dMakeA_e, ↓dMakeV_e, ↓dMethA_e, ↓dCMethA_e, ↓dPropA_e, ↓dFld_e, ↓sFldS_e, ↓dFzI_e, ↓fzID_o, ↓dM1_e, ↓dM0_e, ↓dRev_e, ↓mSplit_s, ↓mUpper_s, ↓exStr, ↓exZ, ↓cStrI_i, ↓cIntS_s, ↓iStrD_e, ↓dEqF_s, ↓dNeF_s, ↓dEqF_i, ↓dNeF_i, ↓dSign_s, ↓sRaiseI_e, ↓dXFld_e, ↓mPop_e, ↓dAddO_l, ↓dAddO_o, ↓dMk0_e, ↓sKeep_e, ↓sTryH_e, ↓dCVal_e, ↓dConI_e, ↓cLen_s, ↓dIx_s, ↓dSlS_s, ↓dAdd_s, ↓cTup_l, ↓pkP_e, ↓pkS_e, ↓lstG_e, ↓asI_i, ↓iSeq_e, ↓iTupD_e, ↓iRg1_e, ↓iRg2_e, ↓iZipD_e, iZrD_e, ↓iEnumD_e, ↓sFor_e, ↓dLc_e, ↓finF_e, ↓finO_e, ↓fzD_l, ↓fzD_i, ↓fzD_o, ↓fzD2_o, ↓dSetO_e, ↓mAppend_e, ↓mClear_e, ↓mReverse_e, List.map_cons, List.map_nil, List.length_cons, List.length_nil, rep_0, rep_s, List.cons_append, List.nil_append, List.getElem?_cons_zero, List.getElem?_cons_succ, List.set_cons_zero, List.set_cons_succ, Nat.reduceAdd, Nat.reduceSub, Nat.zero_add, Nat.add_zero, ↓exSS, ↓exB, ↓exI, ↓ex1, ↓ex2, ↓ex3, ↓exI1, ↓exI2, ↓exT, ↓exC, ↓exAs, ↓dAdd_i, ↓dAddI_i, ↓dSubI_i, ↓dLRg_e, ↓dIsiT_e, ↓dLenSet_e, ↓bChain3_e, ↓dLRg2_e, ↓iRg3_e, ↓dLc2_e, ↓dSlT_t, dAddT_t, ↓dNewK_e, ↓dDis1_e, ↓sDkp_e, ↓dDGet_e, ↓dDGet2_e, ↓dLVals_e, ↓kD_ex_i, ↓dSS_e, ↓dST_e, ↓dSI_e, ↓lsG_e, ↓dMulI_i, ↓dNew_e, ↓sDct_e, ↓dMulO_l, ↓dLRgO_e, ↓dAdd_l, ↓dSub_i, ↓dMul_i, ↓dMul_l, ↓dMod_i, ↓dDiv_i, ↓dPow_i, ↓dLt_i, ↓dLe_i, ↓dGt_i, ↓dGe_i, ↓uNeg_i, ↓cMax2_i, ↓cMin2_i, ↓cAbs_i, ↓cInt_i, ↓cInt_b, ↓cLen_l, ↓cLen_q, ↓cLen_t, ↓cList_l, ↓cList_q, ↓cList_t, ↓cListO_l, ↓cListO_t, ↓dIx_l, ↓dIx_q, ↓dIx_t, ↓dIx_o', ↓exS, ↓exL, at_1, at_2, at_3, at_4, ix30, ix31, ix32, ↓dSlL_l, ↓dSlL_q, ↓asQ_l, ↓asL_l, at_0, ↓isi_non_int, ↓isi_non_bool, ↓isi_non_str, ↓isi_non_list, ↓isi_non_tuple, ↓isi_non_dict, ↓isi_bl_int, ↓isi_bl_bool, ↓isi_bl_str, ↓isi_bl_list, ↓isi_bl_tuple, ↓isi_bl_dict, ↓isi_int_int, ↓isi_int_bool, ↓isi_int_str, ↓isi_int_list, ↓isi_int_tuple, ↓isi_int_dict, ↓isi_str_int, ↓isi_str_bool, ↓isi_str_str, ↓isi_str_list, ↓isi_str_tuple, ↓isi_str_dict, ↓isi_lst_int, ↓isi_lst_bool, ↓isi_lst_str, ↓isi_lst_list, ↓isi_lst_tuple, ↓isi_lst_dict, ↓isi_sq_int, ↓isi_sq_bool, ↓isi_sq_str, ↓isi_sq_list, ↓isi_sq_tuple, ↓isi_sq_dict, ↓isi_tup_int, ↓isi_tup_bool, ↓isi_tup_str, ↓isi_tup_list, ↓isi_tup_tuple, ↓isi_tup_dict, ↓isi_dic_int, ↓isi_dic_bool, ↓isi_dic_str, ↓isi_dic_list, ↓isi_dic_tuple, ↓isi_dic_dict, if_true, if_false, Bool.not_true, Bool.not_false, true_and, and_true, reduceCtorEq, Bool.true_eq_false, Bool.false_eq_true, ite_true, ite_false, ↓exAny, ↓isLst_l, Int.toNat_natCast, Int.reduceToNat, dVar_e, sPar_e, sPar3_e, sAug_e])))
--MI
theorem non_or (ss : List Sg) : conflD ss = .non ∨ conflD ss ≠ .non := Classical.em _
theorem non_no {ss : List Sg} (h : conflD ss ≠ .non) : isNon (conflD ss) = false := by
  unfold conflD at h ⊢
  split
  · rfl
  · rename_i h2
    rw [h2] at h
    exact absurd rfl h
theorem p_Sights_agreed_widths (C CN : Addr) : Rets (sp_Sights_agreed_widths C CN) (T_Sights_agreed_widths C CN) N_Sights_agreed_widths := by
  rintro _ S Φ Ψ ⟨d, t, ss, rfl, e, ok, oks, q0, q1⟩
  unfold T_Sights_agreed_widths
  walk_at "dl"
  refine ⟨_, e, rfl, d, t, ss, rfl, e, ok, oks, ?_⟩
  rcases non_or ss with hc | hc
  · rw [hc]
    refine ⟨false, rfl, ?_⟩
    rw [if_neg Bool.false_ne_true]
    exact ⟨_, e, rfl, d, t, ss, rfl, e, ok, oks, ret_now (q0 hc)⟩
  · refine ⟨true, by rw [non_no hc]; rfl, ?_⟩
    rw [if_pos rfl]
    exact .inl (q1 hc)
theorem p_Sights_bounds (C CN : Addr) : Rets (sp_Sights_bounds C CN) (T_Sights_bounds C CN) N_Sights_bounds := by
  rintro _ S Φ Ψ ⟨d, t, ss, rfl, e, ok, oks, q0, q1⟩
  unfold T_Sights_bounds
  walk_at "dl"
  exact ⟨_, e, rfl, d, t, ss, rfl, e, ok, oks, fun hc => ret_now (q0 hc), fun hc => .inl (q1 hc)⟩
theorem rowsF_len (t : List Nat) (ss : List Sg) : (rowsF t ss).length = t.length := by unfold rowsF; rw [List.length_map, List.length_range]
theorem rowsF_at {t : List Nat} {ss : List Sg} {i : Nat} (h : i < t.length) : (rowsF t ss)[i]? = some (rowF ss (t.getD i 0) i) := by
  unfold rowsF
  rw [List.getElem?_map, List.getElem?_range h]
  rfl
/-- the cells of the rows -/
theorem row_at {S Z : Sto} {t : List Nat} {ss : List Sg} {i : Nat} (h : i < t.length) : (S ++ (rowsF t ss).map Cell.lst ++ Z)[S.length + i]? = some (.lst (rowF ss (t.getD i 0) i)) := by
  rw [mid_get (by rw [List.length_map, rowsF_len]; exact h), List.getElem_map]
  have := rowsF_at (ss := ss) h
  rw [List.getElem?_eq_getElem (by rw [rowsF_len]; exact h)] at this
  rw [Option.some.inj this]
theorem top_at {S Z : Sto} {t : List Nat} {ss : List Sg} {c : Cell} : (S ++ (rowsF t ss).map Cell.lst ++ [c] ++ Z)[S.length + t.length]? = some c := by
  have hl : (S ++ (rowsF t ss).map Cell.lst).length = S.length + t.length := by rw [List.length_append, List.length_map, rowsF_len]
  rw [← hl, List.append_assoc, List.getElem?_append_right (Nat.le_refl _), Nat.sub_self]
  rfl
theorem eqD_opt (o : Option Int) (b : Int) : eqD (optD o) (.int b) = (o == some b) := by
  cases o with
  | none => rfl
  | some v =>
    show (v == b) = (some v == some b)
    simp
theorem p_Sights_widest (C CN : Addr) : Rets (sp_Sights_widest C CN) (T_Sights_widest C CN) N_Sights_widest := by
  rintro _ S Φ Ψ ⟨d, t, ss, rfl, e, ok, oks, qq, q1⟩
  unfold T_Sights_widest
  walk_at "dl"
  refine ⟨_, e, rfl, d, t, ss, rfl, e, ok, oks, fun hc => ?_, fun z => .inl (q1 z)⟩
  have q := qq hc
  have h60 := ok.hi
  obtain ⟨S0, hS0⟩ : ∃ S0, S0 = S ++ (rowsF t ss).map Cell.lst ++ [Cell.lst (ownsN S.length t.length)] := ⟨_, rfl⟩
  have l0 : S0.length = S.length + (t.length + 1) := by rw [hS0, List.length_append, List.length_append, List.length_map, rowsF_len]; rfl
  have top : ∀ Z, (S0 ++ Z)[S.length + t.length]? = some (.lst (ownsN S.length t.length)) := fun Z => by rw [hS0]; exact top_at
  have row : ∀ (Z : Sto) (i : Nat), i < t.length → (S0 ++ Z)[S.length + i]? = some (.lst (rowF ss (t.getD i 0) i)) := fun Z i hi => by rw [hS0, List.append_assoc]; exact row_at hi
  have top0 := top []
  rw [List.append_nil] at top0
  rw [← hS0]
  refine ⟨⟨_, asQ_at' top0⟩, lc_s (ds := ownsN S.length t.length) (fun i acc S' => S' = S0 ++ ((rows0F t ss).take i).map Cell.lst ∧ acc = ownsN (S.length + (t.length + 1)) i) (small (by rw [ownsN_len]; omega)) ⟨by simp, rfl⟩ (fun i acc S' hp => by rw [hp.1]; exact asQ_at' (top _)) (fun i acc S' hi hp => ?_) fun acc S' hp => ?_⟩
  · obtain ⟨rfl, rfl⟩ := hp
    rw [ownsN_len] at hi
    have ej : (ownsN S.length t.length)[i]'(by rw [ownsN_len]; exact hi) = .own (S.length + i) := by
      have := ownsN_get (a := S.length) (n := t.length) (i := i) hi
      rw [List.getElem?_eq_getElem (by rw [ownsN_len]; exact hi)] at this
      exact Option.some.inj this
    rw [ej]
    walk_at "dl"
    have r0 := row (((rows0F t ss).take i).map Cell.lst) i hi
    have n11 : t.getD i 0 ≤ 11 := by
      rw [List.getD_eq_getElem?_getD, List.getElem?_eq_getElem hi]
      exact ok.at_ _ (List.getElem_mem hi)
    refine ⟨⟨_, asQ_at' r0⟩, lc_mapS (List.range (t.getD i 0)) (fun c => optD (bestF ss i c)) (fun c => .int ((bestF ss i c).getD 0)) (asQ_at' r0) (small (by rw [List.length_range]; omega)) (fun x hx R hR => ?_) ?_⟩
    · walk_at "dl"
      rw [dJ_e]
      cases hb : bestF ss i x with
      | none =>
        rw [hb] at hR
        unfold optD
        walk_at "dl"
        refine ⟨true, rfl, ?_⟩
        rw [if_pos rfl]
        exact hR
      | some v =>
        rw [hb] at hR
        unfold optD
        walk_at "dl"
        refine ⟨false, rfl, ?_⟩
        rw [if_neg Bool.false_ne_true]
        exact hR
    · rw [finO_e]
      have hr : (rows0F t ss)[i]? = some (row0F ss (t.getD i 0) i) := by
        unfold rows0F
        rw [List.getElem?_map, List.getElem?_range hi]
        rfl
      have tk : (rows0F t ss).take (i + 1) = (rows0F t ss).take i ++ [row0F ss (t.getD i 0) i] := by rw [List.take_add_one, hr]; rfl
      refine ⟨?_, ?_⟩
      · rw [tk, List.map_append, ← List.append_assoc]
        rfl
      · rw [ownsN_succ, List.length_append, List.length_map, List.length_take, l0]
        have : (rows0F t ss).length = t.length := by unfold rows0F; rw [List.length_map, List.length_range]
        rw [this, Nat.min_eq_left (by omega)]
  · obtain ⟨rfl, rfl⟩ := hp
    have hl0 : (rows0F t ss).length = t.length := by unfold rows0F; rw [List.length_map, List.length_range]
    rw [finO_e, ownsN_len, List.take_of_length_le (by omega), List.length_append, List.length_map, hl0, l0]
    have := q (((rowsF t ss).map Cell.lst) ++ [Cell.lst (ownsN S.length t.length)]) (by rw [List.length_append, List.length_map, rowsF_len]; rfl)
    rw [hS0, List.append_assoc S]
    exact ret_now this
theorem owns_cut {a n f l : Nat} (hl : l < n) (hf : f ≤ l) : cutD (ownsN a n) (some (f : Int)) (some ((l : Int) + 1)) = (List.range (l + 1 - f)).map fun j => D.own (a + (f + j)) := by
  rw [show ((l : Int) + 1) = ((l + 1 : Nat) : Int) from rfl, cut_mid (by rw [ownsN_len]; omega) (by omega)]
  apply List.ext_getElem?
  intro k
  rw [List.getElem?_map]
  by_cases hk : k < l + 1 - f
  · rw [List.getElem?_take_of_lt hk, List.getElem?_drop, List.getElem?_range hk, ownsN_get (by omega)]
    rfl
  · rw [List.getElem?_eq_none (by rw [List.length_take, List.length_drop, ownsN_len]; omega), List.getElem?_eq_none (by rw [List.length_range]; omega)]
    rfl
def solP (ss : List Sg) (i c : Nat) (b : Int) (s : Sg) : Bool := hasB s i c && (decide (s.w = b) && decide (shareN ss s b = 1))
theorem inB_nat {v : Int} {n : Nat} (h : inB v 0 ((n : Int) - 1) = true) : ∃ k : Nat, v = (k : Int) ∧ k < n := by
  unfold inB at h
  obtain ⟨h1, h2⟩ := Bool.and_eq_true_iff.mp h
  have h1 := of_decide_eq_true h1
  have h2 := of_decide_eq_true h2
  exact ⟨v.toNat, by omega, by omega⟩
theorem p_Sights_cell_range (C C1 C2 CN : Addr) : Rets (sp_Sights_cell_range C C1 C2 CN) (T_Sights_cell_range C C1 C2 CN) N_Sights_cell_range := by
  rintro _ S Φ Ψ ⟨d, t, ss, i0, c0, rfl, e, ok, oks, qL, qC, qR⟩
  unfold T_Sights_cell_range
  have h60 := ok.hi
  walk_at "dl"
  refine ⟨_, e, _, rfl, ?_⟩
  walk_at "dl"
  rw [List.length_map]
  refine ⟨_, _, _, rfl, ?_⟩
  cases hL : inB i0 0 ((t.length : Int) - 1) with
  | false =>
    refine ⟨false, rfl, ?_⟩
    rw [if_pos (by decide)]
    exact .inl (qL hL)
  | true =>
  refine ⟨true, rfl, ?_⟩
  rw [if_neg (by decide)]
  have qC := qC hL
  have qR := qR hL
  obtain ⟨i, rfl, hi⟩ := inB_nat hL
  rw [Int.toNat_natCast] at qC qR
  have et : atI (t.map fun (n : Nat) => D.int (n : Int)) (i : Int) = some (.int (t.getD i 0 : Nat)) := by
    rw [at_nat, List.getElem?_map, List.getElem?_eq_getElem hi, List.getD_eq_getElem?_getD, List.getElem?_eq_getElem hi]; rfl
  refine ⟨_, e, _, rfl, ?_⟩
  walk_at "dl"
  refine ⟨_, et, ?_⟩
  walk_at "dl"
  refine ⟨_, _, _, rfl, ?_⟩
  cases hC : inB c0 0 ((t.getD i 0 : Nat) - 1) with
  | false =>
    refine ⟨false, rfl, ?_⟩
    rw [if_pos (by decide)]
    exact .inl (qC hC)
  | true =>
  refine ⟨true, rfl, ?_⟩
  rw [if_neg (by decide)]
  have qR := qR hC
  obtain ⟨c, rfl, hc⟩ := inB_nat hC
  rw [Int.toNat_natCast] at qR
  refine ⟨_, e, rfl, d, t, ss, rfl, e, ok, oks, fun hcf => ?_, fun hc => .inl (qR.2 hc)⟩
  have q := qR.1 hcf
  walk_at "dl"
  have top := top_at (S := S) (Z := []) (t := t) (ss := ss) (c := Cell.lst (ownsN S.length t.length))
  rw [List.append_nil] at top
  have row : ∀ j, j < t.length → (S ++ (rowsF t ss).map Cell.lst ++ [Cell.lst (ownsN S.length t.length)])[S.length + j]? = some (.lst (rowF ss (t.getD j 0) j)) := fun j hj => row_at hj
  refine ⟨_, top, _, by rw [at_nat, ownsN_get hi], ?_⟩
  walk_at "dl"
  have cellv : ∀ j, c < t.getD j 0 → atI (rowF ss (t.getD j 0) j) (c : Int) = some (optD (bestF ss j c)) := fun j hj => by rw [at_nat, rowF_get hj]
  refine ⟨_, row i hi, _, cellv i hc, ?_⟩
  unfold rangeD at q
  cases hb : bestF ss i c with
  | none =>
    rw [hb] at q
    unfold optD
    walk_at "dl"
    refine ⟨true, rfl, ?_⟩
    rw [if_pos rfl, List.append_assoc]
    exact ret_cut rfl q
  | some b =>
    rw [hb] at q
    dsimp only at q
    unfold optD
    walk_at "dl"
    refine ⟨false, rfl, ?_⟩
    rw [if_neg Bool.false_ne_true]
    refine ⟨_, by rw [List.append_assoc]; exact asI_app e, _, rfl, ?_⟩
    walk_at "dl"
    obtain ⟨S0, hS0⟩ : ∃ S0, S0 = S ++ (rowsF t ss).map Cell.lst ++ [Cell.lst (ownsN S.length t.length)] := ⟨_, rfl⟩
    rw [← hS0] at top row ⊢
    refine for_l (ds := ss.map sgD) (fun k Γ S' => S' = S0 ∧ (∃ o5 o6, Γ = [some d, some (.int i), some (.int c), some (.own (S.length + t.length)), some (.int b), o5, o6]) ∧ (ss.take k).any (solP ss i c b) = false) ⟨rfl, ⟨_, _, rfl⟩, by rw [List.take_zero]; rfl⟩ (fun k Γ' S' hk hp => ?_) fun Γ' S' hp => ?_
    · obtain ⟨rfl, ⟨o5, o6, rfl⟩, hno⟩ := hp
      rw [List.length_map] at hk
      rw [List.getElem_map]
      have so := oks.at_ _ (List.getElem_mem hk)
      have ek : ss.take (k + 1) = ss.take k ++ [ss[k]] := List.take_succ_eq_append_getElem hk
      have hmem : ss[k] ∈ ss := List.getElem_mem hk
      have nxt : ∀ o6 : Option D, (hasB ss[k] i c && (decide (ss[k].w = b) && decide (shareN ss ss[k] b = 1))) = false → S' = S' ∧ (∃ o5 o6', [some d, some (.int i), some (.int c), some (.own (S.length + t.length)), some (.int b), some (sgD ss[k]), o6] = [some d, some (.int i), some (.int c), some (.own (S.length + t.length)), some (.int b), o5, o6']) ∧ (ss.take (k + 1)).any (solP ss i c b) = false := fun o6 h => by
        refine ⟨rfl, ⟨_, _, rfl⟩, ?_⟩
        rw [ek]
        rw [List.any_append, hno, List.any_cons, List.any_nil, show solP ss i c b ss[k] = false from h]
        rfl
      have hit : (hasB ss[k] i c && (decide (ss[k].w = b) && decide (shareN ss ss[k] b = 1))) = true → soleB ss i c b = true := fun h => by
        unfold soleB
        exact List.any_eq_true.mpr ⟨ss[k], hmem, h⟩
      have sh : shareN ss ss[k] b = shareN ss ss[k] b := rfl
      generalize ss[k] = s at so hmem nxt hit ⊢
      walk_at "dl"
      rw [sJ_e]
      walk_at "dl"
      refine ⟨s, i, c, rfl, _, rfl, ?_⟩
      cases hh : hasB s i c with
      | false =>
        rw [hh] at nxt
        rw [if_neg Bool.false_ne_true]
        walk_at "dl"
        exact (nxt _ rfl).2
      | true =>
        rw [hh, Bool.true_and] at nxt hit
        rw [if_pos rfl]
        walk_at "dl"
        have hh2 := hasB_iff.mp hh
        by_cases cw : s.w = b
        · rw [if_pos (by rw [beq_iff_eq]; exact cw)]
          rw [decide_eq_true cw, Bool.true_and] at nxt hit
          rw [dSlL_L (asL_at' top), owns_cut so.l so.fl]
          have b3 : ∀ j, j < s.l + 1 - s.f → s.f + j < t.length ∧ c < t.getD (s.f + j) 0 := fun j hj => ⟨by have := so.l; omega, hh2.1 ▸ so.has _ (Nat.le_add_right _ _) (by omega)⟩
          refine ⟨⟨_, rfl⟩, lc_mapS (List.range (s.l + 1 - s.f)) (fun j => D.own (S.length + (s.f + j))) (fun j => optD (bestF ss (s.f + j) c)) rfl (small (by rw [List.length_range]; have := so.l; omega)) (fun j hj R hR => ?_) ?_⟩
          · walk_at "dl"
            have bj := b3 j (List.mem_range.mp hj)
            exact ⟨_, row _ bj.1, _, cellv _ bj.2, hR⟩
          · rw [finF_e]
            refine ⟨⟨_, rfl⟩, _, _, rfl, rfl, rfl, ?_, ?_⟩
            · rw [List.all_map, List.all_eq_true]
              intro j _
              show flatD (optD (bestF ss (s.f + j) c)) = true
              cases bestF ss (s.f + j) c <;> rfl
            · have ec : ((List.range (s.l + 1 - s.f)).map fun j => optD (bestF ss (s.f + j) c)).countP (fun z => eqD z (.int b)) = shareN ss s b := by
                rw [List.countP_map]
                unfold shareN
                rw [hh2.1]
                refine List.countP_congr fun j _ => ?_
                show eqD (optD (bestF ss (s.f + j) c)) (.int b) = true ↔ _
                rw [eqD_opt]
              rw [ec]
              walk_at "dl"
              by_cases c1 : shareN ss s b = 1
              · rw [if_pos (by rw [c1]; rfl), hS0, List.append_assoc]
                rw [hit (decide_eq_true c1), if_pos rfl] at q
                exact ⟨small, ret_cut rfl q⟩
              · rw [if_neg (by rw [beq_iff_eq]; omega)]
                exact (nxt _ (decide_eq_false c1)).2
        · rw [if_neg (by rw [beq_iff_eq]; exact cw)]
          rw [decide_eq_false cw] at nxt
          exact (nxt _ rfl).2
    · obtain ⟨rfl, ⟨o5, o6, rfl⟩, hno⟩ := hp
      rw [List.length_map, List.take_length] at hno
      have hno : soleB ss i c b = false := hno
      walk_at "dl"
      rw [hno, if_neg Bool.false_ne_true] at q
      rw [hS0, List.append_assoc]
      refine ⟨small, ret_cut rfl q⟩
end DL
namespace DL
open PySem PySem.Spec PyProof.Rows L2
local macro_rules | `(tactic| walk_at "dl") => `(tactic| ((try simp only [gstart, gwipe, List.set_set, List.map_cons, List.map_nil, List.length_cons, List.length_nil, rep_0, rep_s, List.cons_append, List.nil_append, List.set_cons_zero, List.set_cons_succ, Nat.reduceAdd, Nat.reduceSub, Nat.zero_add, Nat.add_zero]); (try simp only [↓dv0, ↓dv1, ↓dv2, ↓dv3, ↓dv4, ↓dv5, ↓dv6, ↓dv7, ↓dv8, ↓dv9, ↓dv10, ↓dv11, ↓dv12, ↓dv13, ↓dv14, ↓dv15, ↓dv16, ↓dv17, ↓dv18, ↓dv19, ↓dv20, ↓dv21, ↓dv22, ↓dv23, ↓dv24, ↓dv25, ↓dv26, ↓dv27, ↓dv28, ↓dv29, ↓dv30, ↓dv31, ↓dv32, ↓dv33, ↓dv34, ↓dv35, ↓dv36, ↓dv37, ↓dv38, ↓dv39, ↓nm0, ↓nm1, ↓nm2, ↓nm3, ↓nm4, ↓nm5, ↓nm6, ↓nm7, ↓nm8, ↓nm9, ↓nm10, ↓nm11, ↓nm12, ↓nm13, ↓nm14, ↓nm15, ↓nm16, ↓nm17, ↓nm18, ↓nm19, ↓nm20, ↓nm21, ↓nm22, ↓nm23, ↓nm24, ↓nm25, ↓nm26, ↓nm27, ↓nm28, ↓nm29, ↓nm30, ↓nm31, ↓nm32, ↓nm33, ↓nm34, ↓nm35, ↓nm36, ↓nm37, ↓nm38, ↓nm39, ↓sPar_n, ↓sPar3_n, ↓sAug_n, ↓reduceIte, List.set_set, ↓sNext_e, ↓sSeq_e, ↓sBrk_e, ↓sCnt_e, ↓sDrop_e, ↓sRet_e, ↓sRetN_e, ↓sIf_e, ↓sAsg_e, ↓sRaise_e, ↓nmG_e, ↓tupG_e, ↓gsNil_e, ↓gsCons_e, ↓subG_e, ↓dC_e, ↓dOp_e, ↓dUn_e, ↓dChain_e, ↓bOf_e, ↓bAnd_e, ↓bOr_e, ↓bNot_e, ↓bYes_e, ↓dAnd_e, ↓dOr_e, ↓dNot_e, ↓dIf_e, ↓lNil_e, ↓lCons_e, ↓dLst_e, ↓dDic0_e, ↓dDic1_e, ↓dLenSetG_e, dIsB_b, ↓dLstO_e, ↓dTup_e, ↓dCB_e, ↓dCall_e, ↓dCallK_e, ↓oNone_e, ↓oSome_e, ↓dSl_e, ↓dBM_e, ↓dBM0_e, ↓dFz_e, ↓dFz2_e, ↓d2_e, ↓dLone_e, ↓lStar_e, ↓dCallA_e, ↓dMakeA_e, ↓dMakeV_e, ↓dMethA_e, ↓dCMethA_e, ↓dPropA_e, ↓dFld_e, ↓sFldS_e, ↓dFzI_e, ↓fzID_o, ↓dM1_e, ↓dM0_e, ↓dRev_e, ↓mSplit_s, ↓mUpper_s, ↓exStr, ↓exZ, ↓cStrI_i, ↓cIntS_s, ↓iStrD_e, ↓dEqF_s, ↓dNeF_s, ↓dEqF_i, ↓dNeF_i, ↓dSign_s, ↓sRaiseI_e, ↓dXFld_e, ↓mPop_e, ↓dAddO_l, ↓dAddO_o, ↓dMk0_e, ↓sKeep_e, ↓sTryH_e, ↓dCVal_e, ↓dConI_e, ↓cLen_s, ↓dIx_s, ↓dSlS_s, ↓dAdd_s, ↓cTup_l, ↓pkP_e, ↓pkS_e, ↓lstG_e, ↓asI_i, ↓iSeq_e, ↓iTupD_e, ↓iRg1_e, ↓iRg2_e, ↓iZipD_e, iZrD_e, ↓iEnumD_e, ↓sFor_e, ↓dLc_e, ↓finF_e, ↓finO_e, ↓fzD_l, ↓fzD_i, ↓fzD_o, ↓fzD2_o, ↓dSetO_e, ↓mAppend_e, ↓mClear_e, ↓mReverse_e, List.map_cons, List.map_nil, List.length_cons, List.length_nil, rep_0, rep_s, List.cons_append, List.nil_append, List.getElem?_cons_zero, List.getElem?_cons_succ, List.set_cons_zero, List.set_cons_succ, Nat.reduceAdd, Nat.reduceSub, Nat.zero_add, Nat.add_zero, ↓exSS, ↓exB, ↓exI, ↓ex1, ↓ex2, ↓ex3, ↓exI1, ↓exI2, ↓exT, ↓exC, ↓exAs, ↓dAdd_i, ↓dAddI_i, ↓dSubI_i, ↓dLRg_e, ↓dIsiT_e, ↓dLenSet_e, ↓bChain3_e, ↓dLRg2_e, ↓iRg3_e, ↓dLc2_e, ↓dSlT_t, dAddT_t, ↓dNewK_e, ↓dDis1_e, ↓sDkp_e, ↓dDGet_e, ↓dDGet2_e, ↓dLVals_e, ↓kD_ex_i, ↓dSS_e, ↓dST_e, ↓dSI_e, ↓lsG_e, ↓dMulI_i, ↓dNew_e, ↓sDct_e, ↓dMulO_l, ↓dLRgO_e, ↓dAdd_l, ↓dSub_i, ↓dMul_i, ↓dMul_l, ↓dMod_i, ↓dDiv_i, ↓dPow_i, ↓dLt_i, ↓dLe_i, ↓dGt_i, ↓dGe_i, ↓uNeg_i, ↓cMax2_i, ↓cMin2_i, ↓cAbs_i, ↓cInt_i, ↓cInt_b, ↓cLen_l, ↓cLen_q, ↓cLen_t, ↓cList_l, ↓cList_q, ↓cList_t, ↓cListO_l, ↓cListO_t, ↓dIx_l, ↓dIx_q, ↓dIx_t, ↓dIx_o', ↓exS, ↓exL, at_1, at_2, at_3, at_4, ix30, ix31, ix32, ↓dSlL_l, ↓dSlL_q, ↓asQ_l, ↓asL_l, at_0, ↓isi_non_int, ↓isi_non_bool, ↓isi_non_str, ↓isi_non_list, ↓isi_non_tuple, ↓isi_non_dict, ↓isi_bl_int, ↓isi_bl_bool, ↓isi_bl_str, ↓isi_bl_list, ↓isi_bl_tuple, ↓isi_bl_dict, ↓isi_int_int, ↓isi_int_bool, ↓isi_int_str, ↓isi_int_list, ↓isi_int_tuple, ↓isi_int_dict, ↓isi_str_int, ↓isi_str_bool, ↓isi_str_str, ↓isi_str_list, ↓isi_str_tuple, ↓isi_str_dict, ↓isi_lst_int, ↓isi_lst_bool, ↓isi_lst_str, ↓isi_lst_list, ↓isi_lst_tuple, ↓isi_lst_dict, ↓isi_sq_int, ↓isi_sq_bool, ↓isi_sq_str, ↓isi_sq_list, ↓isi_sq_tuple, ↓isi_sq_dict, ↓isi_tup_int, ↓isi_tup_bool, ↓isi_tup_str, ↓isi_tup_list, ↓isi_tup_tuple, ↓isi_tup_dict, ↓isi_dic_int, ↓isi_dic_bool, ↓isi_dic_str, ↓isi_dic_list, ↓isi_dic_tuple, ↓isi_dic_dict, if_true, if_false, Bool.not_true, Bool.not_false, true_and, and_true, reduceCtorEq, Bool.true_eq_false, Bool.false_eq_true, ite_true, ite_false, ↓exAny, ↓isLst_l, Int.toNat_natCast, Int.reduceToNat, dVar_e, sPar_e, sPar3_e, sAug_e])))
local macro_rules | `(tactic| walk_at "dls") => `(tactic| ((try simp only [gstart, gwipe, List.set_set, List.map_cons, List.map_nil, List.length_cons, List.length_nil, rep_0, rep_s, List.cons_append, List.nil_append, List.set_cons_zero, List.set_cons_succ, Nat.reduceAdd, Nat.reduceSub, Nat.zero_add, Nat.add_zero]); (try simp only [*, ↓dv0, ↓dv1, ↓dv2, ↓dv3, ↓dv4, ↓dv5, ↓dv6, ↓dv7, ↓dv8, ↓dv9, ↓dv10, ↓dv11, ↓dv12, ↓dv13, ↓dv14, ↓dv15, ↓dv16, ↓dv17, ↓dv18, ↓dv19, ↓dv20, ↓dv21, ↓dv22, ↓dv23, ↓dv24, ↓dv25, ↓dv26, ↓dv27, ↓dv28, ↓dv29, ↓dv30, ↓dv31, ↓dv32, ↓dv33, ↓dv34, ↓dv35, ↓dv36, ↓dv37, ↓dv38, ↓dv39, ↓nm0, ↓nm1, ↓nm2, ↓nm3, ↓nm4, ↓nm5, ↓nm6, ↓nm7, ↓nm8, ↓nm9, ↓nm10, ↓nm11, ↓nm12, ↓nm13, ↓nm14, ↓nm15, ↓nm16, ↓nm17, ↓nm18, ↓nm19, ↓nm20, ↓nm21, ↓nm22, ↓nm23, ↓nm24, ↓nm25, ↓nm26, ↓nm27, ↓nm28, ↓nm29, ↓nm30, ↓nm31, ↓nm32, ↓nm33, ↓nm34, ↓nm35, ↓nm36, ↓nm37, ↓nm38, ↓nm39, ↓sPar_n, ↓sPar3_n, ↓sAug_n, ↓reduceIte, List.set_set, ↓sNext_e, ↓sSeq_e, ↓sBrk_e, ↓sCnt_e, ↓sDrop_e, ↓sRet_e, ↓sRetN_e, ↓sIf_e, ↓sAsg_e, ↓sRaise_e, ↓nmG_e, ↓tupG_e, ↓gsNil_e, ↓gsCons_e, ↓subG_e, ↓dC_e, ↓dOp_e, ↓dUn_e, ↓dChain_e, ↓bOf_e, ↓bAnd_e, ↓bOr_e, ↓bNot_e, ↓bYes_e, ↓dAnd_e, ↓dOr_e, ↓dNot_e, ↓dIf_e, ↓lNil_e, ↓lCons_e, ↓dLst_e, ↓dDic0_e, ↓dDic1_e, ↓dLenSetG_e, dIsB_b, ↓dLstO_e, ↓dTup_e, ↓dCB_e, ↓dCall_e, ↓dCallK_e, ↓oNone_e, ↓oSome_e, ↓dSl_e, ↓dBM_e, ↓dBM0_e, ↓dFz_e, ↓dFz2_e, ↓d2_e, ↓dLone_e, ↓lStar_e, ↓dCallA_e, ↓dMakeA_e, ↓dMakeV_e, ↓dMethA_e, ↓dCMethA_e, ↓dPropA_e, ↓dFld_e, ↓sFldS_e, ↓dFzI_e, ↓fzID_o, ↓dM1_e, ↓dM0_e, ↓dRev_e, ↓mSplit_s, ↓mUpper_s, ↓exStr, ↓exZ, ↓cStrI_i, ↓cIntS_s, ↓iStrD_e, ↓dEqF_s, ↓dNeF_s, ↓dEqF_i, ↓dNeF_i, ↓dSign_s, ↓sRaiseI_e, ↓dXFld_e, ↓mPop_e, ↓dAddO_l, ↓dAddO_o, ↓dMk0_e, ↓sKeep_e, ↓sTryH_e, ↓dCVal_e, ↓dConI_e, ↓cLen_s, ↓dIx_s, ↓dSlS_s, ↓dAdd_s, ↓cTup_l, ↓pkP_e, ↓pkS_e, ↓lstG_e, ↓asI_i, ↓iSeq_e, ↓iTupD_e, ↓iRg1_e, ↓iRg2_e, ↓iZipD_e, iZrD_e, ↓iEnumD_e, ↓sFor_e, ↓dLc_e, ↓finF_e, ↓finO_e, ↓fzD_l, ↓fzD_i, ↓fzD_o, ↓fzD2_o, ↓dSetO_e, ↓mAppend_e, ↓mClear_e, ↓mReverse_e, List.map_cons, List.map_nil, List.length_cons, List.length_nil, rep_0, rep_s, List.cons_append, List.nil_append, List.getElem?_cons_zero, List.getElem?_cons_succ, List.set_cons_zero, List.set_cons_succ, Nat.reduceAdd, Nat.reduceSub, Nat.zero_add, Nat.add_zero, ↓exSS, ↓exB, ↓exI, ↓ex1, ↓ex2, ↓ex3, ↓exI1, ↓exI2, ↓exT, ↓exC, ↓exAs, ↓dAdd_i, ↓dAddI_i, ↓dSubI_i, ↓dLRg_e, ↓dIsiT_e, ↓dLenSet_e, ↓bChain3_e, ↓dLRg2_e, ↓iRg3_e, ↓dLc2_e, ↓dSlT_t, dAddT_t, ↓dNewK_e, ↓dDis1_e, ↓sDkp_e, ↓dDGet_e, ↓dDGet2_e, ↓dLVals_e, ↓kD_ex_i, ↓dSS_e, ↓dST_e, ↓dSI_e, ↓lsG_e, ↓dMulI_i, ↓dNew_e, ↓sDct_e, ↓dMulO_l, ↓dLRgO_e, ↓dAdd_l, ↓dSub_i, ↓dMul_i, ↓dMul_l, ↓dMod_i, ↓dDiv_i, ↓dPow_i, ↓dLt_i, ↓dLe_i, ↓dGt_i, ↓dGe_i, ↓uNeg_i, ↓cMax2_i, ↓cMin2_i, ↓cAbs_i, ↓cInt_i, ↓cInt_b, ↓cLen_l, ↓cLen_q, ↓cLen_t, ↓cList_l, ↓cList_q, ↓cList_t, ↓cListO_l, ↓cListO_t, ↓dIx_l, ↓dIx_q, ↓dIx_t, ↓dIx_o', ↓exS, ↓exL, at_1, at_2, at_3, at_4, ix30, ix31, ix32, ↓dSlL_l, ↓dSlL_q, ↓asQ_l, ↓asL_l, at_0, ↓isi_non_int, ↓isi_non_bool, ↓isi_non_str, ↓isi_non_list, ↓isi_non_tuple, ↓isi_non_dict, ↓isi_bl_int, ↓isi_bl_bool, ↓isi_bl_str, ↓isi_bl_list, ↓isi_bl_tuple, ↓isi_bl_dict, ↓isi_int_int, ↓isi_int_bool, ↓isi_int_str, ↓isi_int_list, ↓isi_int_tuple, ↓isi_int_dict, ↓isi_str_int, ↓isi_str_bool, ↓isi_str_str, ↓isi_str_list, ↓isi_str_tuple, ↓isi_str_dict, ↓isi_lst_int, ↓isi_lst_bool, ↓isi_lst_str, ↓isi_lst_list, ↓isi_lst_tuple, ↓isi_lst_dict, ↓isi_sq_int, ↓isi_sq_bool, ↓isi_sq_str, ↓isi_sq_list, ↓isi_sq_tuple, ↓isi_sq_dict, ↓isi_tup_int, ↓isi_tup_bool, ↓isi_tup_str, ↓isi_tup_list, ↓isi_tup_tuple, ↓isi_tup_dict, ↓isi_dic_int, ↓isi_dic_bool, ↓isi_dic_str, ↓isi_dic_list, ↓isi_dic_tuple, ↓isi_dic_dict, if_true, if_false, Bool.not_true, Bool.not_false, true_and, and_true, reduceCtorEq, Bool.true_eq_false, Bool.false_eq_true, ite_true, ite_false, ↓exAny, ↓isLst_l, Int.toNat_natCast, Int.reduceToNat, dVar_e, sPar_e, sPar3_e, sAug_e])))
--MI
theorem strOk_join : ∀ {ts : List Str}, (∀ t ∈ ts, PyData.strOk t = true) → PyData.strOk (Str.join ", " ts) = true
  | [], _ => strOk_lit (s := "")
  | [x], h => h x List.mem_cons_self
  | x :: y :: r, h => strOk_app (strOk_app (h x List.mem_cons_self) strOk_lit) (strOk_join fun t ht => h t (List.mem_cons_of_mem _ ht))
theorem piled_le {m : Nat} : ∀ {ts : List Str}, (∀ t ∈ ts, t.length ≤ m) → piled ts ≤ ts.length * (m + 2)
  | [], _ => Nat.zero_le _
  | x :: r, h => by
    have ih := piled_le (m := m) (ts := r) fun t ht => h t (List.mem_cons_of_mem _ ht)
    have h1 := h x List.mem_cons_self
    rw [List.length_cons, Nat.add_mul]
    rw [piled_cons]
    omega
theorem fit_tup {n m l : Nat} {ps : List PyData} (h : ∀ p ∈ ps, Fit n m p) (hl : ps.length ≤ l) : Fit (n + 1) (4 + l * (m + 2)) (.tuple ps) := by
  obtain ⟨a, b, c, d⟩ := fits_all h
  have e : (PyData.tuple ps).shown = tupleText (PyData.shownAll ps) := by
    rw [PyData.shown]
  refine ⟨by rw [PyData.canLay0]; exact a, by rw [PyData.showable]; exact b, by rw [PyData.hasDict]; exact c, by rw [PyData.depth]; omega, ?_, ?_⟩
  · rw [e]
    unfold tupleText
    refine strOk_app (strOk_app strOk_lit (strOk_join fun t ht => ?_)) strOk_lit
    obtain ⟨p, hp, rfl⟩ := shownAll_mem ht
    exact (h p hp).text
  · rw [e]
    have := piled_le (m := m) (ts := PyData.shownAll ps) fun t ht => by
      obtain ⟨p, hp, rfl⟩ := shownAll_mem ht
      exact (h p hp).len
    rw [shownAll_len] at this
    have h2 : ps.length * (m + 2) ≤ l * (m + 2) := Nat.mul_le_mul_right _ hl
    unfold tupleText
    rw [len_app, len_app, PySem.ofString_length, PySem.ofString_length]
    have h3 : (if (PyData.shownAll ps).length == 1 then ",)" else ")" : String).length ≤ 2 := by split <;> decide
    have h4 : (Str.join ", " (PyData.shownAll ps)).length ≤ piled (PyData.shownAll ps) := by
      by_cases c : PyData.shownAll ps = []
      · rw [c]; decide
      · have := join_length_add _ c
        omega
    have h5 : "(".length = 1 := rfl
    omega
theorem at_m1 {α : Type} {xs : List α} {x : α} : atI (xs ++ [x]) (-1) = some x := by
  unfold atI ixN
  rw [if_neg (by decide), if_pos (by rw [List.length_append, List.length_singleton]; omega)]
  show (xs ++ [x])[_]? = some x
  rw [show ((-1 : Int) + ((xs ++ [x]).length : Int)).toNat = xs.length by rw [List.length_append, List.length_singleton]; omega, List.getElem?_append_right (Nat.le_refl _), Nat.sub_self]
  rfl
theorem fold_le : ∀ (ss : List Sg) (o : Option Int) (i c : Nat) (u : Int), ss.foldl (bestS i c) o = some u → (∀ v, o = some v → u ≤ v) ∧ ∀ s ∈ ss, hasB s i c = true → u ≤ s.w
  | [], o, i, c, u, h => ⟨fun v e => by rw [List.foldl_nil, e] at h; cases h; exact Int.le_refl _, fun s hs => nomatch hs⟩
  | s :: ss, o, i, c, u, h => by
    rw [List.foldl_cons] at h
    obtain ⟨h1, h2⟩ := fold_le ss _ i c u h
    have key : (∀ v, o = some v → u ≤ v) ∧ (hasB s i c = true → u ≤ s.w) := by
      by_cases hb : hasB s i c = true
      · unfold bestS at h1
        rw [if_pos hb] at h1
        cases o with
        | none => exact ⟨fun v e => (nomatch e), fun _ => h1 _ rfl⟩
        | some w =>
          have := h1 _ rfl
          refine ⟨fun v e => ?_, fun _ => ?_⟩
          · cases e
            split at this <;> omega
          · split at this <;> omega
      · unfold bestS at h1
        rw [if_neg hb] at h1
        exact ⟨h1, fun z => absurd z hb⟩
    refine ⟨key.1, fun s2 hs2 hb2 => ?_⟩
    rcases List.mem_cons.mp hs2 with e | m
    · rw [e] at hb2 ⊢; exact key.2 hb2
    · exact h2 s2 m hb2
theorem best_le {ss : List Sg} {s : Sg} {i c : Nat} {u : Int} (h : bestF ss i c = some u) (hs : s ∈ ss) (hb : hasB s i c = true) : u ≤ s.w := (fold_le ss none i c u h).2 s hs hb
/-- without a conflict each sight has a cell with its width -/
theorem confl_no {ss : List Sg} (h : conflD ss = .non) {s : Sg} (hs : s ∈ ss) (fl : s.f ≤ s.l) : ∃ j, s.f ≤ j ∧ j ≤ s.l ∧ bestF ss j s.c = some s.w := by
  have hn : ss.findIdx? (badB ss) = none := by
    unfold conflD at h
    split at h
    · cases h
    · assumption
  have hb : badB ss s = false := List.findIdx?_eq_none_iff.mp hn s hs
  unfold badB at hb
  obtain ⟨j, hj, e⟩ := List.all_eq_false.mp hb
  have hj := List.mem_range.mp hj
  have hc : hasB s ((s.f + j : Nat) : Int) (s.c : Int) = true := hasB_iff.mpr ⟨rfl, Nat.le_add_right _ _, by omega⟩
  obtain ⟨u, hu⟩ := best_some hs hc
  have hle := best_le hu hs hc
  rw [hu] at e
  have e : ¬ decide (u < s.w) = true := e
  rw [decide_eq_true_eq] at e
  exact ⟨s.f + j, Nat.le_add_right _ _, by omega, by rw [hu]; congr 1; omega⟩
/-- and the other way -/
theorem confl_yes {ss : List Sg} (h : ∀ s ∈ ss, ∃ j, s.f ≤ j ∧ j ≤ s.l ∧ bestF ss j s.c = some s.w) : conflD ss = .non := by
  have hn : ss.findIdx? (badB ss) = none := List.findIdx?_eq_none_iff.mpr fun s hs => by
    obtain ⟨j, h1, h2, h3⟩ := h s hs
    unfold badB
    refine List.all_eq_false.mpr ⟨j - s.f, List.mem_range.mpr (by omega), ?_⟩
    rw [show s.f + (j - s.f) = j by omega, h3]
    simp
  unfold conflD
  rw [hn]
theorem nodup_le {α : Type} [DecidableEq α] : ∀ (as bs : List α), as.Nodup → (∀ a ∈ as, a ∈ bs) → as.length ≤ bs.length
  | [], _, _, _ => Nat.zero_le _
  | a :: as, bs, h, hs => by
    have ⟨n1, n2⟩ := List.nodup_cons.mp h
    have ha := hs a List.mem_cons_self
    have := nodup_le as (bs.erase a) n2 fun b hb => (List.mem_erase_of_ne fun (e : b = a) => n1 (e ▸ hb)).mpr (hs b (List.mem_cons_of_mem _ hb))
    have := List.length_erase_of_mem ha
    have := List.length_pos_of_mem ha
    show as.length + 1 ≤ bs.length
    omega
theorem cmF_bnd {n : Nat} {sp : List (Nat × Nat)} {w : Int} (hn : n ≤ 60) (h0 : 0 ≤ w) (h1 : w ≤ MOST) : 0 ≤ cmF n sp w ∧ cmF n sp w < 2 ^ 6001 := by
  have ok := cm_ok (sp := sp) h0 n
  refine ⟨sum_nn ok.val, Int.lt_of_le_of_lt ok.sum (Int.lt_of_lt_of_le (pow_bnd h0 h1 hn) ?_)⟩
  exact_mod_cast Nat.pow_le_pow_right (by decide) (by omega)
theorem enum_owns (a n : Nat) : enumD (ownsN a n) = (List.range n).map fun (i : Nat) => D.tup [.int (i : Int), .own (a + i)] := by
  unfold ownsN
  apply List.ext_getElem?
  intro k
  by_cases hk : k < n
  · have h1 : k < (enumD ((List.range n).map fun i => D.own (a + i))).length := by rw [enumD_len, List.length_map, List.length_range]; exact hk
    rw [List.getElem?_eq_getElem h1, en_get (List.range n) (fun i => D.own (a + i)) (by rw [List.length_range]; exact hk), List.getElem?_map, List.getElem?_range hk, List.getElem_range]
    rfl
  · rw [List.getElem?_eq_none (by rw [enumD_len, List.length_map, List.length_range]; omega), List.getElem?_eq_none (by rw [List.length_map, List.length_range]; omega)]
theorem eq_pair {S : Sto} {Φ : KD} {a b c d : Int} (ha : a.natAbs < 10 ^ 40) (hb : b.natAbs < 10 ^ 40) (hc : c.natAbs < 10 ^ 40) (hd : d.natAbs < 10 ^ 40) (h : Φ S (.bl (decide (a = c) && decide (b = d)))) : dEq (.tup [.int a, .int b]) (.tup [.int c, .int d]) S Φ := by
  have ft : ∀ {x y : Int}, x.natAbs < 10 ^ 40 → y.natAbs < 10 ^ 40 → SeqAt.shaped (.tuple [.int x, .int y]) = true := fun {x y} h1 h2 => by
    refine (fit_tup (n := 0) (m := 41) (l := 2) (ps := [.int x, .int y]) (fun q hq => ?_) (by simp)).shaped
    simp only [List.mem_cons, List.not_mem_nil, or_false] at hq
    rcases hq with rfl | rfl <;> exact fit_int (k := 40) (by assumption)
  refine ⟨.tuple [.int a, .int b], .tuple [.int c, .int d], .tup (.cons (.int _) (.cons (.int _) .nil)), .tup (.cons (.int _) (.cons (.int _) .nil)), ft ha hb, ft hc hd, ?_⟩
  have e : PyData.eqv (.tuple [.int a, .int b]) (.tuple [.int c, .int d]) = (decide (a = c) && decide (b = d)) := by
    simp [PyData.eqv, PyData.eqvAll]
    rfl
  rw [e]
  exact h
theorem mul_bnd {x y : Int} {a b : Nat} (h0 : 0 ≤ x) (h1 : x < 2 ^ a) (h2 : 0 ≤ y) (h3 : y < 2 ^ b) : x * y < 2 ^ (a + b) := by
  obtain ⟨n, rfl⟩ := Int.eq_ofNat_of_zero_le h0
  obtain ⟨m, rfl⟩ := Int.eq_ofNat_of_zero_le h2
  have k1 : n < 2 ^ a := by exact_mod_cast h1
  have k2 : m < 2 ^ b := by exact_mod_cast h3
  have := Nat.mul_lt_mul'' k1 k2
  rw [← Nat.pow_add] at this
  exact_mod_cast this
theorem enum_nats (Ls : List Nat) : enumD (Ls.map fun (i : Nat) => D.int (i : Int)) = (List.range Ls.length).map fun (k : Nat) => D.tup [.int (k : Int), .int (Ls.getD k 0 : Nat)] := by
  apply List.ext_getElem?
  intro k
  by_cases hk : k < Ls.length
  · rw [List.getElem?_eq_getElem (by rw [en_len]; exact hk), en_get Ls (fun (i : Nat) => D.int (i : Int)) hk, List.getElem?_map, List.getElem?_range hk, Option.map_some, List.getD_eq_getElem?_getD, List.getElem?_eq_getElem hk]
    rfl
  · rw [List.getElem?_eq_none (by rw [en_len]; omega), List.getElem?_eq_none (by rw [List.length_map, List.length_range]; omega)]
theorem ends_at {xs : List Nat} (h : xs ≠ []) : atI (xs.map fun (i : Nat) => D.int (i : Int)) 0 = some (.int (xs.headD 0 : Nat)) ∧ atI (xs.map fun (i : Nat) => D.int (i : Int)) (-1) = some (.int (xs.getLastD 0 : Nat)) := by
  refine ⟨?_, ?_⟩
  · cases xs with
    | nil => exact absurd rfl h
    | cons a xs => show atI _ ((0 : Nat) : Int) = _; rw [at_nat]; rfl
  · have e := (List.dropLast_concat_getLast h).symm
    have e2 : xs.getLastD 0 = xs.getLast h := by
      rw [List.getLastD_eq_getLast?, List.getLast?_eq_getLast h]; rfl
    rw [e2]
    generalize xs.getLast h = z at e ⊢
    rw [e, List.map_append]
    exact at_m1
theorem p_Sights_ways (C CN : Addr) : Rets (sp_Sights_ways C CN) (T_Sights_ways C CN) N_Sights_ways := by
  rintro _ S Φ Ψ ⟨d, t, ss, rfl, e, ok, oks, qq, q1⟩
  unfold T_Sights_ways
  have h60 := ok.hi
  have h40 := oks.hi
  walk_at "dl"
  refine ⟨_, e, rfl, d, t, ss, rfl, e, ok, oks, fun hcf => ?_, fun hc => .inl (q1 hc)⟩
  have q := qq hcf
  obtain ⟨S0, hS0⟩ : ∃ S0, S0 = S ++ (rowsF t ss).map Cell.lst ++ [Cell.lst (ownsN S.length t.length)] := ⟨_, rfl⟩
  have top : ∀ Z, (S0 ++ Z)[S.length + t.length]? = some (.lst (ownsN S.length t.length)) := fun Z => by rw [hS0]; exact top_at
  have row : ∀ (Z : Sto) (i : Nat), i < t.length → (S0 ++ Z)[S.length + i]? = some (.lst (rowF ss (t.getD i 0) i)) := fun Z i hi => by rw [hS0, List.append_assoc]; exact row_at hi
  have eI : ∀ Z, asI (S0 ++ Z) d = some (C, seeF t ss) := fun Z => by rw [hS0, List.append_assoc, List.append_assoc]; exact asI_app e
  have eI0 := eI []
  rw [List.append_nil] at eI0
  rw [← hS0]
  refine ⟨_, eI0, _, rfl, ⟨_, rfl⟩, ss.map (fun s => ((s.c : Int), s.w)), ss.map sgD, rfl, by rw [List.length_map, List.length_map], by rw [List.length_map]; omega, fun p hp => ?_, fun i d2 p hd2 hp => ?_, fun qs hqs hpw => ?_⟩
  · obtain ⟨s, hs, rfl⟩ := List.mem_map.mp hp
    exact ⟨Int.natCast_nonneg _, (oks.at_ s hs).w0⟩
  · rw [List.getElem?_map] at hd2 hp
    cases hs : ss[i]? with
    | none => rw [hs] at hd2; cases hd2
    | some s =>
      rw [hs] at hd2 hp
      cases hd2
      cases hp
      walk_at "dl"
      exact ⟨small, rfl⟩
  · have ql : qs.length ≤ 40 := by
      have := nodup_le qs (ss.map fun s => ((s.c : Int), s.w)) (hpw.imp fun {a b} h => fun z => by rw [z] at h; rcases h with h | h <;> omega) fun p hp => (hqs p).mp hp
      rw [List.length_map] at this
      omega
    refine for_l (ds := qs.map prD) (fun k Γ S' => (0 ≤ waysF t ss (qs.take k) ∧ waysF t ss (qs.take k) < 2 ^ (6001 * k + 1)) ∧ ∃ Z, S' = S0 ++ Z ∧ ∃ o3 o4 o5 o6 o7 o8 o9 o10 o11 o12 o13 o14 o15 : Option D, Γ = [some d, some (.own (S.length + t.length)), some (.int (waysF t ss (qs.take k))), o3, o4, o5, o6, o7, o8, o9, o10, o11, o12, o13, o14, o15])
      ⟨⟨by rw [List.take_zero]; show (0 : Int) ≤ 1; decide, by rw [List.take_zero]; show (1 : Int) < 2 ^ 1; decide⟩, [], (List.append_nil _).symm, _, _, _, _, _, _, _, _, _, _, _, _, _, by rw [List.take_zero]; rfl⟩ (fun k Γ' S' hk hp => ?_) fun Γ' S' hp => ?_
    · obtain ⟨⟨hm0, hm1⟩, Z, rfl, o3, o4, o5, o6, o7, o8, o9, o10, o11, o12, o13, o14, o15, rfl⟩ := hp
      rw [List.length_map] at hk
      rw [List.getElem_map]
      have tk : qs.take (k + 1) = qs.take k ++ [qs[k]] := List.take_succ_eq_append_getElem hk
      have fold : waysF t ss (qs.take (k + 1)) = waysF t ss (qs.take k) * ways1 t ss qs[k] := by
        rw [tk]
        unfold waysF
        rw [List.foldl_append]
        rfl
      obtain ⟨s0, hs0, eq0⟩ := List.mem_map.mp ((hqs _).mp (List.getElem_mem hk))
      rw [fold]
      rw [← eq0]
      have so0 := oks.at_ s0 hs0
      dsimp only [prD]
      walk_at "dl"
      have hLs : linesF t ss s0.c s0.w = linesF t ss ((s0.c : Int), s0.w).1.toNat ((s0.c : Int), s0.w).2 := rfl
      refine ⟨⟨_, asQ_at' (top Z)⟩, lc_filtS (List.range t.length) (fun (i : Nat) => D.tup [.int (i : Int), .own (S.length + i)]) (fun (i : Nat) => D.int (i : Int)) (fun i => decide (s0.c < t.getD i 0) && (bestF ss i s0.c == some s0.w)) (by rw [asQ_at' (top Z), Option.map_some, enum_owns]) (small (by rw [List.length_range]; omega)) (fun x hx A N h1 h2 => ?_) ?_⟩
      · have hx := List.mem_range.mp hx
        walk_at "dl"
        rw [cLen_L (asL_at' (row Z x hx)), rowF_len]
        walk_at "dl"
        by_cases c1 : s0.c < t.getD x 0
        · rw [if_pos (by rw [decide_eq_true_eq]; omega)]
          refine ⟨_, row Z x hx, _, by rw [at_nat, rowF_get c1], ?_⟩
          rw [decide_eq_true c1, Bool.true_and] at h1 h2
          refine ⟨by cases bestF ss x s0.c <;> rfl, _, rfl, ?_⟩
          rw [eqD_opt]
          cases hb : (bestF ss x s0.c == some s0.w) with
          | true => rw [if_pos rfl]; exact h1 hb
          | false => rw [if_neg Bool.false_ne_true]; exact h2 hb
        · rw [if_neg (by rw [decide_eq_true_eq]; omega)]
          rw [decide_eq_false c1, Bool.false_and] at h2
          exact h2 rfl
      · rw [finF_e]
        have eLs : (List.range t.length).filter (fun i => decide (s0.c < t.getD i 0) && (bestF ss i s0.c == some s0.w)) = linesF t ss s0.c s0.w := rfl
        rw [eLs]
        refine ⟨small, _, by rw [List.append_assoc]; exact eI _, _, rfl, ⟨_, rfl⟩, ?_⟩
        have lsl : (linesF t ss s0.c s0.w).length ≤ 60 := by
          have := List.length_filter_le (fun i => decide (s0.c < t.getD i 0) && (bestF ss i s0.c == some s0.w)) (List.range t.length)
          rw [List.length_range] at this
          exact Nat.le_trans this h60
        have inL : ∀ s ∈ ss, s.c = s0.c → s.w = s0.w → ∃ x ∈ linesF t ss s0.c s0.w, s.f ≤ x ∧ x ≤ s.l := fun s hs ec ew => by
          have so := oks.at_ s hs
          obtain ⟨j, h1, h2, h3⟩ := confl_no hcf hs so.fl
          have h4 : j < t.length := Nat.lt_of_le_of_lt h2 so.l
          refine ⟨j, List.mem_filter.mpr ⟨List.mem_range.mpr h4, ?_⟩, h1, h2⟩
          have := so.has j h1 h2
          rw [ec] at this h3
          rw [ew] at h3
          rw [decide_eq_true this, h3]
          simp
        have w1 : ways1 t ss ((s0.c : Int), s0.w) = cmF (linesF t ss s0.c s0.w).length (spansF ss (linesF t ss s0.c s0.w) s0.c s0.w) s0.w := rfl
        rw [w1]
        generalize linesF t ss s0.c s0.w = Ls at lsl inL ⊢
        have sl : S0.length + Z.length = (S0 ++ Z).length := by rw [List.length_append]
        refine for_l (ds := ss.map sgD) (fun m Γ S' => S' = S0 ++ Z ++ [.lst ((spansF (ss.take m) Ls s0.c s0.w).map spD)] ∧ ∃ o7 o8 o9 o10 o11 o12 o13 o14 o15 : Option D, Γ = [some d, some (.own (S.length + t.length)), some (.int (waysF t ss (qs.take k))), some (.int s0.c), some (.int s0.w), some (.lst (Ls.map fun (i : Nat) => D.int (i : Int))), some (.own (S0 ++ Z).length), o7, o8, o9, o10, o11, o12, o13, o14, o15])
          ⟨by rw [List.take_zero]; rfl, _, _, _, _, _, _, _, _, _, rfl⟩ (fun m Γ' S' hm hp => ?_) fun Γ' S' hp => ?_
        · obtain ⟨rfl, o7, o8, o9, o10, o11, o12, o13, o14, o15, rfl⟩ := hp
          rw [List.length_map] at hm
          rw [List.getElem_map]
          have tk2 : ss.take (m + 1) = ss.take m ++ [ss[m]] := List.take_succ_eq_append_getElem hm
          have hmem : ss[m] ∈ ss := List.getElem_mem hm
          rw [tk2]
          have so := oks.at_ _ hmem
          have inL := inL _ hmem
          generalize ss[m] = s at so hmem inL ⊢
          walk_at "dl"
          rw [sJ_e]
          walk_at "dl"
          have b10 : ∀ z : Sg, SgOk t z → ((z.c : Int).natAbs < 10 ^ 40 ∧ z.w.natAbs < 10 ^ 40) := fun z hz => by
            have h1 := hz.c
            have h2 := hz.w0
            have h3 : z.w < 10 ^ 31 := Int.lt_of_le_of_lt hz.w1 (by decide)
            exact ⟨by omega, by omega⟩
          refine ⟨small, small, eq_pair (b10 s so).1 (b10 s so).2 (b10 s0 so0).1 (b10 s0 so0).2 ⟨_, rfl, ?_⟩⟩
          have sp1 : spansF (ss.take m ++ [s]) Ls s0.c s0.w = spansF (ss.take m) Ls s0.c s0.w ++ (if decide (s.c = s0.c) && decide (s.w = s0.w) then [spanF Ls s] else []) := by
            unfold spansF
            rw [List.filter_append, List.map_append]
            cases hq : decide (s.c = s0.c) && decide (s.w = s0.w) with
            | true => rw [List.filter_cons, hq]; rfl
            | false => rw [List.filter_cons, hq]; rfl
          have sc : decide ((s.c : Int) = (s0.c : Int)) = decide (s.c = s0.c) := by
            rw [decide_eq_decide]; omega
          rw [sc]
          cases hq : decide (s.c = s0.c) && decide (s.w = s0.w) with
          | false =>
            rw [hq, if_neg Bool.false_ne_true, List.append_nil] at sp1
            rw [if_neg Bool.false_ne_true, sp1]
            exact ⟨rfl, _, _, _, _, _, _, _, _, _, rfl⟩
          | true =>
            rw [hq, if_pos rfl] at sp1
            rw [if_pos rfl, sp1]
            obtain ⟨h1, h2⟩ := Bool.and_eq_true_iff.mp hq
            obtain ⟨x, hx, hx1, hx2⟩ := inL (of_decide_eq_true h1) (of_decide_eq_true h2)
            obtain ⟨kx, hkx, ekx⟩ := List.getElem_of_mem hx
            have hne : spotsF Ls s ≠ [] := fun z => by
              have : kx ∈ spotsF Ls s := List.mem_filter.mpr ⟨List.mem_range.mpr hkx, by
                rw [List.getD_eq_getElem?_getD, List.getElem?_eq_getElem hkx, Option.getD_some, ekx, decide_eq_true hx1, decide_eq_true hx2]; rfl⟩
              rw [z] at this
              cases this
            refine lc_filtS (List.range Ls.length) (fun (k : Nat) => D.tup [.int (k : Int), .int (Ls.getD k 0 : Nat)]) (fun (k : Nat) => D.int (k : Int)) (fun k => decide (s.f ≤ Ls.getD k 0) && decide (Ls.getD k 0 ≤ s.l)) (by rw [Option.map_some, enum_nats]) (small (by rw [List.length_range]; omega)) (fun x hx A N h1 h2 => ?_) ?_
            · walk_at "dl"
              by_cases c1 : s.f ≤ Ls.getD x 0
              · rw [if_pos (by rw [decide_eq_true_eq]; omega)]
                rw [decide_eq_true c1, Bool.true_and] at h1 h2
                by_cases c2 : Ls.getD x 0 ≤ s.l
                · rw [if_pos (by rw [decide_eq_true_eq]; omega)]
                  exact h1 (decide_eq_true c2)
                · rw [if_neg (by rw [decide_eq_true_eq]; omega)]
                  exact h2 (decide_eq_false c2)
              · rw [if_neg (by rw [decide_eq_true_eq]; omega)]
                rw [decide_eq_false c1, Bool.false_and] at h2
                exact h2 rfl
            · rw [finF_e]
              have esp : (List.range Ls.length).filter (fun k => decide (s.f ≤ Ls.getD k 0) && decide (Ls.getD k 0 ≤ s.l)) = spotsF Ls s := rfl
              rw [esp]
              have get_last : ∀ (A : Sto) (c : Cell), (A ++ [c])[A.length]? = some c := fun A c => by
                rw [List.getElem?_append_right (Nat.le_refl _), Nat.sub_self]; rfl
              walk_at "dl"
              refine ⟨isLst_at (get_last _ _), _, (ends_at hne).1, _, (ends_at hne).2, small, _, get_last _ _, ?_, ?_, _, _, _, _, _, _, _, _, _, rfl⟩
              · rw [List.length_map]
                have : (spansF (ss.take m) Ls s0.c s0.w).length ≤ 40 := by
                  unfold spansF
                  rw [List.length_map]
                  have := List.length_filter_le (fun s => decide (s.c = s0.c) && decide (s.w = s0.w)) (ss.take m)
                  rw [List.length_take] at this
                  omega
                exact Nat.lt_of_le_of_lt this (by decide)
              · rw [List.set_append_right _ _ (Nat.le_refl _), Nat.sub_self, List.map_append]
                rfl
        · obtain ⟨rfl, o7, o8, o9, o10, o11, o12, o13, o14, o15, rfl⟩ := hp
          rw [List.length_map, List.take_length]
          walk_at "dl"
          have spl : (spansF ss Ls s0.c s0.w).length ≤ 40 := by
            unfold spansF
            rw [List.length_map]
            exact Nat.le_trans (List.length_filter_le _ _) h40
          have get_last : ∀ (A : Sto) (c : Cell), (A ++ [c])[A.length]? = some c := fun A c => by
            rw [List.getElem?_append_right (Nat.le_refl _), Nat.sub_self]; rfl
          rw [List.length_map]
          have cb := cmF_bnd (sp := spansF ss Ls s0.c s0.w) lsl so0.w0 so0.w1
          refine ⟨_, Ls.length, spansF ss Ls s0.c s0.w, s0.w, rfl, lsl, so0.w0, so0.w1, spl, asL_at' (get_last _ _), ?_⟩
          walk_at "dl"
          refine ⟨cmul_nn hm0 hm1 cb.1 cb.2 (by omega), ⟨Int.mul_nonneg hm0 cb.1, ?_⟩, _, by rw [List.append_assoc], _, _, _, _, _, _, _, _, _, _, _, _, _, rfl⟩
          have := mul_bnd hm0 hm1 cb.1 cb.2
          rw [show 6001 * (k + 1) + 1 = 6001 * k + 1 + 6001 by omega]
          exact this
    · obtain ⟨⟨hm0, hm1⟩, Z, rfl, o3, o4, o5, o6, o7, o8, o9, o10, o11, o12, o13, o14, o15, rfl⟩ := hp
      rw [List.length_map, List.take_length]
      walk_at "dl"
      rw [hS0, List.append_assoc, List.append_assoc]
      exact ret_cut rfl (q qs hqs hpw)
end DL
namespace DL
open PySem PySem.Spec PyProof.Rows L2
local macro_rules | `(tactic| walk_at "dl") => `(tactic| ((try simp only [gstart, gwipe, List.set_set, List.map_cons, List.map_nil, List.length_cons, List.length_nil, rep_0, rep_s, List.cons_append, List.nil_append, List.set_cons_zero, List.set_cons_succ, Nat.reduceAdd, Nat.reduceSub, Nat.zero_add, Nat.add_zero]); (try simp only [↓dv0, ↓dv1, ↓dv2, ↓dv3, ↓dv4, ↓dv5, ↓dv6, ↓dv7, ↓dv8, ↓dv9, ↓dv10, ↓dv11, ↓dv12, ↓dv13, ↓dv14, ↓dv15, ↓dv16, ↓dv17, ↓dv18, ↓dv19, ↓dv20, ↓dv21, ↓dv22, ↓dv23, ↓dv24, ↓dv25, ↓dv26, ↓dv27, ↓dv28, ↓dv29, ↓dv30, ↓dv31, ↓dv32, ↓dv33, ↓dv34, ↓dv35, ↓dv36, ↓dv37, ↓dv38, ↓dv39, ↓nm0, ↓nm1, ↓nm2, ↓nm3, ↓nm4, ↓nm5, ↓nm6, ↓nm7, ↓nm8, ↓nm9, ↓nm10, ↓nm11, ↓nm12, ↓nm13, ↓nm14, ↓nm15, ↓nm16, ↓nm17, ↓nm18, ↓nm19, ↓nm20, ↓nm21, ↓nm22, ↓nm23, ↓nm24, ↓nm25, ↓nm26, ↓nm27, ↓nm28, ↓nm29, ↓nm30, ↓nm31, ↓nm32, ↓nm33, ↓nm34, ↓nm35, ↓nm36, ↓nm37, ↓nm38, ↓nm39, ↓sPar_n, ↓sPar3_n, ↓sAug_n, ↓reduceIte, List.set_set, ↓sNext_e, ↓sSeq_e, ↓sBrk_e, ↓sCnt_e, ↓sDrop_e, ↓sRet_e, ↓sRetN_e, ↓sIf_e, ↓sAsg_e, ↓sRaise_e, ↓nmG_e, ↓tupG_e, ↓gsNil_e, ↓gsCons_e, ↓subG_e, ↓dC_e, ↓dOp_e, ↓dUn_e, ↓dChain_e, ↓bOf_e, ↓bAnd_e, ↓bOr_e, ↓bNot_e, ↓bYes_e, ↓dAnd_e, ↓dOr_e, ↓dNot_e, ↓dIf_e, ↓lNil_e, ↓lCons_e, ↓dLst_e, ↓dDic0_e, ↓dDic1_e, ↓dLenSetG_e, dIsB_b, ↓dLstO_e, ↓dTup_e, ↓dCB_e, ↓dCall_e, ↓dCallK_e, ↓oNone_e, ↓oSome_e, ↓dSl_e, ↓dBM_e, ↓dBM0_e, ↓dFz_e, ↓dFz2_e, ↓d2_e, ↓dLone_e, ↓lStar_e, ↓dCallA_e, ↓dMakeA_e, ↓dMakeV_e, ↓dMethA_e, ↓dCMethA_e, ↓dPropA_e, ↓dFld_e, ↓sFldS_e, ↓dFzI_e, ↓fzID_o, ↓dM1_e, ↓dM0_e, ↓dRev_e, ↓mSplit_s, ↓mUpper_s, ↓exStr, ↓exZ, ↓cStrI_i, ↓cIntS_s, ↓iStrD_e, ↓dEqF_s, ↓dNeF_s, ↓dEqF_i, ↓dNeF_i, ↓dSign_s, ↓sRaiseI_e, ↓dXFld_e, ↓mPop_e, ↓dAddO_l, ↓dAddO_o, ↓dMk0_e, ↓sKeep_e, ↓sTryH_e, ↓dCVal_e, ↓dConI_e, ↓cLen_s, ↓dIx_s, ↓dSlS_s, ↓dAdd_s, ↓cTup_l, ↓pkP_e, ↓pkS_e, ↓lstG_e, ↓asI_i, ↓iSeq_e, ↓iTupD_e, ↓iRg1_e, ↓iRg2_e, ↓iZipD_e, iZrD_e, ↓iEnumD_e, ↓sFor_e, ↓dLc_e, ↓finF_e, ↓finO_e, ↓fzD_l, ↓fzD_i, ↓fzD_o, ↓fzD2_o, ↓dSetO_e, ↓mAppend_e, ↓mClear_e, ↓mReverse_e, List.map_cons, List.map_nil, List.length_cons, List.length_nil, rep_0, rep_s, List.cons_append, List.nil_append, List.getElem?_cons_zero, List.getElem?_cons_succ, List.set_cons_zero, List.set_cons_succ, Nat.reduceAdd, Nat.reduceSub, Nat.zero_add, Nat.add_zero, ↓exSS, ↓exB, ↓exI, ↓ex1, ↓ex2, ↓ex3, ↓exI1, ↓exI2, ↓exT, ↓exC, ↓exAs, ↓dAdd_i, ↓dAddI_i, ↓dSubI_i, ↓dLRg_e, ↓dIsiT_e, ↓dLenSet_e, ↓bChain3_e, ↓dLRg2_e, ↓iRg3_e, ↓dLc2_e, ↓dSlT_t, dAddT_t, ↓dNewK_e, ↓dDis1_e, ↓sDkp_e, ↓dDGet_e, ↓dDGet2_e, ↓dLVals_e, ↓kD_ex_i, ↓dSS_e, ↓dST_e, ↓dSI_e, ↓lsG_e, ↓dMulI_i, ↓dNew_e, ↓sDct_e, ↓dMulO_l, ↓dLRgO_e, ↓dAdd_l, ↓dSub_i, ↓dMul_i, ↓dMul_l, ↓dMod_i, ↓dDiv_i, ↓dPow_i, ↓dLt_i, ↓dLe_i, ↓dGt_i, ↓dGe_i, ↓uNeg_i, ↓cMax2_i, ↓cMin2_i, ↓cAbs_i, ↓cInt_i, ↓cInt_b, ↓cLen_l, ↓cLen_q, ↓cLen_t, ↓cList_l, ↓cList_q, ↓cList_t, ↓cListO_l, ↓cListO_t, ↓dIx_l, ↓dIx_q, ↓dIx_t, ↓dIx_o', ↓exS, ↓exL, at_1, at_2, at_3, at_4, ix30, ix31, ix32, ↓dSlL_l, ↓dSlL_q, ↓asQ_l, ↓asL_l, at_0, ↓isi_non_int, ↓isi_non_bool, ↓isi_non_str, ↓isi_non_list, ↓isi_non_tuple, ↓isi_non_dict, ↓isi_bl_int, ↓isi_bl_bool, ↓isi_bl_str, ↓isi_bl_list, ↓isi_bl_tuple, ↓isi_bl_dict, ↓isi_int_int, ↓isi_int_bool, ↓isi_int_str, ↓isi_int_list, ↓isi_int_tuple, ↓isi_int_dict, ↓isi_str_int, ↓isi_str_bool, ↓isi_str_str, ↓isi_str_list, ↓isi_str_tuple, ↓isi_str_dict, ↓isi_lst_int, ↓isi_lst_bool, ↓isi_lst_str, ↓isi_lst_list, ↓isi_lst_tuple, ↓isi_lst_dict, ↓isi_sq_int, ↓isi_sq_bool, ↓isi_sq_str, ↓isi_sq_list, ↓isi_sq_tuple, ↓isi_sq_dict, ↓isi_tup_int, ↓isi_tup_bool, ↓isi_tup_str, ↓isi_tup_list, ↓isi_tup_tuple, ↓isi_tup_dict, ↓isi_dic_int, ↓isi_dic_bool, ↓isi_dic_str, ↓isi_dic_list, ↓isi_dic_tuple, ↓isi_dic_dict, if_true, if_false, Bool.not_true, Bool.not_false, true_and, and_true, reduceCtorEq, Bool.true_eq_false, Bool.false_eq_true, ite_true, ite_false, ↓exAny, ↓isLst_l, Int.toNat_natCast, Int.reduceToNat, dVar_e, sPar_e, sPar3_e, sAug_e])))
local macro_rules | `(tactic| walk_at "dls") => `(tactic| ((try simp only [gstart, gwipe, List.set_set, List.map_cons, List.map_nil, List.length_cons, List.length_nil, rep_0, rep_s, List.cons_append, List.nil_append, List.set_cons_zero, List.set_cons_succ, Nat.reduceAdd, Nat.reduceSub, Nat.zero_add, Nat.add_zero]); (try simp only [*, ↓dv0, ↓dv1, ↓dv2, ↓dv3, ↓dv4, ↓dv5, ↓dv6, ↓dv7, ↓dv8, ↓dv9, ↓dv10, ↓dv11, ↓dv12, ↓dv13, ↓dv14, ↓dv15, ↓dv16, ↓dv17, ↓dv18, ↓dv19, ↓dv20, ↓dv21, ↓dv22, ↓dv23, ↓dv24, ↓dv25, ↓dv26, ↓dv27, ↓dv28, ↓dv29, ↓dv30, ↓dv31, ↓dv32, ↓dv33, ↓dv34, ↓dv35, ↓dv36, ↓dv37, ↓dv38, ↓dv39, ↓nm0, ↓nm1, ↓nm2, ↓nm3, ↓nm4, ↓nm5, ↓nm6, ↓nm7, ↓nm8, ↓nm9, ↓nm10, ↓nm11, ↓nm12, ↓nm13, ↓nm14, ↓nm15, ↓nm16, ↓nm17, ↓nm18, ↓nm19, ↓nm20, ↓nm21, ↓nm22, ↓nm23, ↓nm24, ↓nm25, ↓nm26, ↓nm27, ↓nm28, ↓nm29, ↓nm30, ↓nm31, ↓nm32, ↓nm33, ↓nm34, ↓nm35, ↓nm36, ↓nm37, ↓nm38, ↓nm39, ↓sPar_n, ↓sPar3_n, ↓sAug_n, ↓reduceIte, List.set_set, ↓sNext_e, ↓sSeq_e, ↓sBrk_e, ↓sCnt_e, ↓sDrop_e, ↓sRet_e, ↓sRetN_e, ↓sIf_e, ↓sAsg_e, ↓sRaise_e, ↓nmG_e, ↓tupG_e, ↓gsNil_e, ↓gsCons_e, ↓subG_e, ↓dC_e, ↓dOp_e, ↓dUn_e, ↓dChain_e, ↓bOf_e, ↓bAnd_e, ↓bOr_e, ↓bNot_e, ↓bYes_e, ↓dAnd_e, ↓dOr_e, ↓dNot_e, ↓dIf_e, ↓lNil_e, ↓lCons_e, ↓dLst_e, ↓dDic0_e, ↓dDic1_e, ↓dLenSetG_e, dIsB_b, ↓dLstO_e, ↓dTup_e, ↓dCB_e, ↓dCall_e, ↓dCallK_e, ↓oNone_e, ↓oSome_e, ↓dSl_e, ↓dBM_e, ↓dBM0_e, ↓dFz_e, ↓dFz2_e, ↓d2_e, ↓dLone_e, ↓lStar_e, ↓dCallA_e, ↓dMakeA_e, ↓dMakeV_e, ↓dMethA_e, ↓dCMethA_e, ↓dPropA_e, ↓dFld_e, ↓sFldS_e, ↓dFzI_e, ↓fzID_o, ↓dM1_e, ↓dM0_e, ↓dRev_e, ↓mSplit_s, ↓mUpper_s, ↓exStr, ↓exZ, ↓cStrI_i, ↓cIntS_s, ↓iStrD_e, ↓dEqF_s, ↓dNeF_s, ↓dEqF_i, ↓dNeF_i, ↓dSign_s, ↓sRaiseI_e, ↓dXFld_e, ↓mPop_e, ↓dAddO_l, ↓dAddO_o, ↓dMk0_e, ↓sKeep_e, ↓sTryH_e, ↓dCVal_e, ↓dConI_e, ↓cLen_s, ↓dIx_s, ↓dSlS_s, ↓dAdd_s, ↓cTup_l, ↓pkP_e, ↓pkS_e, ↓lstG_e, ↓asI_i, ↓iSeq_e, ↓iTupD_e, ↓iRg1_e, ↓iRg2_e, ↓iZipD_e, iZrD_e, ↓iEnumD_e, ↓sFor_e, ↓dLc_e, ↓finF_e, ↓finO_e, ↓fzD_l, ↓fzD_i, ↓fzD_o, ↓fzD2_o, ↓dSetO_e, ↓mAppend_e, ↓mClear_e, ↓mReverse_e, List.map_cons, List.map_nil, List.length_cons, List.length_nil, rep_0, rep_s, List.cons_append, List.nil_append, List.getElem?_cons_zero, List.getElem?_cons_succ, List.set_cons_zero, List.set_cons_succ, Nat.reduceAdd, Nat.reduceSub, Nat.zero_add, Nat.add_zero, ↓exSS, ↓exB, ↓exI, ↓ex1, ↓ex2, ↓ex3, ↓exI1, ↓exI2, ↓exT, ↓exC, ↓exAs, ↓dAdd_i, ↓dAddI_i, ↓dSubI_i, ↓dLRg_e, ↓dIsiT_e, ↓dLenSet_e, ↓bChain3_e, ↓dLRg2_e, ↓iRg3_e, ↓dLc2_e, ↓dSlT_t, dAddT_t, ↓dNewK_e, ↓dDis1_e, ↓sDkp_e, ↓dDGet_e, ↓dDGet2_e, ↓dLVals_e, ↓kD_ex_i, ↓dSS_e, ↓dST_e, ↓dSI_e, ↓lsG_e, ↓dMulI_i, ↓dNew_e, ↓sDct_e, ↓dMulO_l, ↓dLRgO_e, ↓dAdd_l, ↓dSub_i, ↓dMul_i, ↓dMul_l, ↓dMod_i, ↓dDiv_i, ↓dPow_i, ↓dLt_i, ↓dLe_i, ↓dGt_i, ↓dGe_i, ↓uNeg_i, ↓cMax2_i, ↓cMin2_i, ↓cAbs_i, ↓cInt_i, ↓cInt_b, ↓cLen_l, ↓cLen_q, ↓cLen_t, ↓cList_l, ↓cList_q, ↓cList_t, ↓cListO_l, ↓cListO_t, ↓dIx_l, ↓dIx_q, ↓dIx_t, ↓dIx_o', ↓exS, ↓exL, at_1, at_2, at_3, at_4, ix30, ix31, ix32, ↓dSlL_l, ↓dSlL_q, ↓asQ_l, ↓asL_l, at_0, ↓isi_non_int, ↓isi_non_bool, ↓isi_non_str, ↓isi_non_list, ↓isi_non_tuple, ↓isi_non_dict, ↓isi_bl_int, ↓isi_bl_bool, ↓isi_bl_str, ↓isi_bl_list, ↓isi_bl_tuple, ↓isi_bl_dict, ↓isi_int_int, ↓isi_int_bool, ↓isi_int_str, ↓isi_int_list, ↓isi_int_tuple, ↓isi_int_dict, ↓isi_str_int, ↓isi_str_bool, ↓isi_str_str, ↓isi_str_list, ↓isi_str_tuple, ↓isi_str_dict, ↓isi_lst_int, ↓isi_lst_bool, ↓isi_lst_str, ↓isi_lst_list, ↓isi_lst_tuple, ↓isi_lst_dict, ↓isi_sq_int, ↓isi_sq_bool, ↓isi_sq_str, ↓isi_sq_list, ↓isi_sq_tuple, ↓isi_sq_dict, ↓isi_tup_int, ↓isi_tup_bool, ↓isi_tup_str, ↓isi_tup_list, ↓isi_tup_tuple, ↓isi_tup_dict, ↓isi_dic_int, ↓isi_dic_bool, ↓isi_dic_str, ↓isi_dic_list, ↓isi_dic_tuple, ↓isi_dic_dict, if_true, if_false, Bool.not_true, Bool.not_false, true_and, and_true, reduceCtorEq, Bool.true_eq_false, Bool.false_eq_true, ite_true, ite_false, ↓exAny, ↓isLst_l, Int.toNat_natCast, Int.reduceToNat, dVar_e, sPar_e, sPar3_e, sAug_e])))
--MI
def sumN (n : Nat) (f : Nat → Int) : Int := ((List.range n).map f).sum
theorem sumN_0 (f : Nat → Int) : sumN 0 f = 0 := rfl
theorem sumN_s (n : Nat) (f : Nat → Int) : sumN (n + 1) f = sumN n f + f n := by
  unfold sumN
  rw [List.range_succ, List.map_append, List.sum_append]
  simp
theorem sumN_h (n : Nat) (f : Nat → Int) : sumN (n + 1) f = f 0 + sumN n fun i => f (i + 1) := by
  unfold sumN
  rw [List.range_succ_eq_map, List.map_cons, List.sum_cons, List.map_map]
  rfl
theorem sumN_congr {n : Nat} {f g : Nat → Int} (h : ∀ i, i < n → f i = g i) : sumN n f = sumN n g := by
  unfold sumN
  congr 1
  exact List.map_congr_left fun i hi => h i (List.mem_range.mp hi)
theorem sumN_add (f g : Nat → Int) : ∀ n, sumN n (fun i => f i + g i) = sumN n f + sumN n g
  | 0 => rfl
  | n + 1 => by rw [sumN_s, sumN_s, sumN_s, sumN_add f g n]; omega
theorem sumN_mul (f : Nat → Int) (x : Int) : ∀ n, sumN n (fun i => f i * x) = sumN n f * x
  | 0 => by rw [sumN_0, sumN_0, Int.zero_mul]
  | n + 1 => by rw [sumN_s, sumN_s, sumN_mul f x n, Int.add_mul]
/-- the sums over all ways, from both ends -/
theorem both_ends {c : Nat → Nat → Int} {N : Nat} {G R : Nat → Int} (hN : 1 ≤ N) (g0 : G 0 = 1) (gs : ∀ j, j < N → G (j + 1) = sumN (j + 1) fun i => G i * c i (j + 1)) (rN : R N = 1) (rs : ∀ i, i < N → R i = sumN (N - i) fun m => c i (i + 1 + m) * R (i + 1 + m)) : G N = R 0 := by
  have cutS : ∀ k, k < N → sumN (k + 1) (fun i => G i * sumN (N - k) fun m => c i (k + 1 + m) * R (k + 1 + m)) = R 0 := by
    intro k
    induction k with
    | zero =>
      intro h
      rw [sumN_s, sumN_0, Int.zero_add, g0, Int.one_mul, rs 0 h]
    | succ k ih =>
      intro h
      rw [← ih (by omega)]
      have e : ∀ i, sumN (N - k) (fun m => c i (k + 1 + m) * R (k + 1 + m)) = c i (k + 1) * R (k + 1) + sumN (N - (k + 1)) fun m => c i (k + 1 + 1 + m) * R (k + 1 + 1 + m) := fun i => by
        rw [show N - k = (N - (k + 1)) + 1 by omega, sumN_h]
        congr 1
        refine sumN_congr fun m _ => ?_
        rw [show k + 1 + (m + 1) = k + 1 + 1 + m by omega]
      rw [sumN_congr (fun i _ => show G i * sumN (N - k) (fun m => c i (k + 1 + m) * R (k + 1 + m)) = G i * c i (k + 1) * R (k + 1) + G i * sumN (N - (k + 1)) (fun m => c i (k + 1 + 1 + m) * R (k + 1 + 1 + m)) by rw [e i, Int.mul_add, Int.mul_assoc]), sumN_add, sumN_mul, ← gs k (by omega), sumN_s]
      rw [← rs (k + 1) h]
      omega
  have last := cutS (N - 1) (by omega)
  have e1 : N - (N - 1) = 1 := by omega
  have e2 : N - 1 + 1 = N := by omega
  rw [e1, e2] at last
  rw [← last]
  have := gs (N - 1) (by omega)
  rw [e2] at this
  rw [this]
  refine sumN_congr fun i _ => ?_
  rw [sumN_s, sumN_0, Int.zero_add, Nat.add_zero, rN, Int.mul_one]
def okP (sp : List (Nat × Nat)) (i n : Nat) : Bool := sp.all fun p => !(decide (i ≤ p.1) && decide (p.2 < n))
def Gf (sp : List (Nat × Nat)) (w : Int) : Nat → Int
  | 0 => 1
  | j + 1 => cmF j sp w
theorem need_le {sp : List (Nat × Nat)} {n i : Nat} : needF sp n ≤ (i : Int) - 1 ↔ ∀ p ∈ sp, p.2 = n → p.1 < i := by
  have gen : ∀ (ns : List Int) (m0 : Int), ns.foldl max m0 ≤ (i : Int) - 1 ↔ m0 ≤ (i : Int) - 1 ∧ ∀ x ∈ ns, x ≤ (i : Int) - 1 := by
    intro ns
    induction ns with
    | nil => intro m0; simp
    | cons x xs ih =>
      intro m0
      rw [List.foldl_cons, ih]
      constructor
      · rintro ⟨h1, h2⟩
        refine ⟨by omega, fun y hy => ?_⟩
        rcases List.mem_cons.mp hy with e | m
        · rw [e]; omega
        · exact h2 y m
      · rintro ⟨h1, h2⟩
        have := h2 x List.mem_cons_self
        exact ⟨by omega, fun y hy => h2 y (List.mem_cons_of_mem _ hy)⟩
  unfold needF
  rw [gen]
  constructor
  · rintro ⟨_, h⟩ p hp e
    have := h (p.1 : Int) (List.mem_map.mpr ⟨p, List.mem_filter.mpr ⟨hp, decide_eq_true e⟩, rfl⟩)
    omega
  · intro h
    refine ⟨by omega, fun x hx => ?_⟩
    obtain ⟨p, hp, rfl⟩ := List.mem_map.mp hx
    obtain ⟨h1, h2⟩ := List.mem_filter.mp hp
    have := h p h1 (of_decide_eq_true h2)
    omega
theorem okP_succ {sp : List (Nat × Nat)} {i n : Nat} : okP sp i (n + 1) = (okP sp i n && decide (needF sp n ≤ (i : Int) - 1)) := by
  rw [Bool.eq_iff_iff, Bool.and_eq_true, decide_eq_true_eq, need_le]
  unfold okP
  rw [List.all_eq_true, List.all_eq_true]
  constructor
  · intro h
    refine ⟨fun p hp => ?_, fun p hp e => ?_⟩
    · have := h p hp
      simp only [Bool.not_eq_true', Bool.and_eq_false_iff, decide_eq_false_iff_not] at this ⊢
      omega
    · have := h p hp
      simp only [Bool.not_eq_true', Bool.and_eq_false_iff, decide_eq_false_iff_not] at this
      omega
  · rintro ⟨h1, h2⟩ p hp
    have h3 := h1 p hp
    have h4 := h2 p hp
    simp only [Bool.not_eq_true', Bool.and_eq_false_iff, decide_eq_false_iff_not] at h3 ⊢
    omega
theorem okP_top {sp : List (Nat × Nat)} (hs : ∀ p ∈ sp, p.1 ≤ p.2) (n : Nat) : okP sp n n = true := by
  unfold okP
  rw [List.all_eq_true]
  intro p hp
  have := hs p hp
  simp only [Bool.not_eq_true', Bool.and_eq_false_iff, decide_eq_false_iff_not]
  omega
theorem filt_one {p : Nat → Bool} {x : Nat} (h : p x = true) : [x].filter p = [x] := by
  rw [List.filter_cons, h]
  rfl
theorem cmL_form {sp : List (Nat × Nat)} (hs : ∀ p ∈ sp, p.1 ≤ p.2) (w : Int) : ∀ n, cmL sp w n = ((List.range (n + 1)).filter fun i => okP sp i n).map fun (i : Nat) => ((i : Int) - 1, Gf sp w i * w ^ (n - i))
  | 0 => by
    have : (List.range (0 + 1)).filter (fun i => okP sp i 0) = [0] := filt_one (p := fun i => okP sp i 0) (okP_top hs 0)
    rw [this]
    show [((-1 : Int), (1 : Int))] = [(((0 : Nat) : Int) - 1, Gf sp w 0 * w ^ (0 - 0))]
    simp [Gf]
  | n + 1 => by
    have ih := cmL_form hs w n
    have e0 : laterC w (cmL sp w n) n = (((List.range (n + 1)).filter fun i => okP sp i n) ++ [n + 1]).map fun (i : Nat) => ((i : Int) - 1, Gf sp w i * w ^ (n + 1 - i)) := by
      unfold laterC
      rw [List.map_append]
      congr 1
      · conv => lhs; rw [ih]
        rw [List.map_map]
        refine List.map_congr_left fun i hi => ?_
        have := List.mem_range.mp (List.mem_filter.mp hi).1
        show ((i : Int) - 1, Gf sp w i * w ^ (n - i) * w) = _
        rw [Int.mul_assoc, ← Int.pow_succ, show (n - i).succ = n + 1 - i by omega]
      · show [((n : Int), cmF n sp w)] = [(((n + 1 : Nat) : Int) - 1, Gf sp w (n + 1) * w ^ (n + 1 - (n + 1)))]
        rw [Nat.sub_self, Int.pow_zero, Int.mul_one, show ((n + 1 : Nat) : Int) - 1 = (n : Int) by omega]
        rfl
    show stepC sp w (cmL sp w n) n = _
    unfold stepC
    rw [e0, List.filter_map]
    congr 1
    show ((((List.range (n + 1)).filter fun i => okP sp i n) ++ [n + 1]).filter fun (i : Nat) => decide (needF sp n ≤ (i : Int) - 1)) = _
    have f1 : (List.range (n + 1 + 1)).filter (fun i => okP sp i (n + 1)) = (List.range (n + 1)).filter (fun i => okP sp i (n + 1)) ++ [n + 1] := by
      rw [List.range_succ (n := n + 1), List.filter_append, filt_one (p := fun i => okP sp i (n + 1)) (okP_top hs (n + 1))]
    have f2 : decide (needF sp n ≤ ((n + 1 : Nat) : Int) - 1) = true := by
      rw [decide_eq_true_eq, need_le]
      intro p hp e
      have := hs p hp
      omega
    rw [f1, List.filter_append, List.filter_filter, filt_one (p := fun (i : Nat) => decide (needF sp n ≤ (i : Int) - 1)) f2]
    congr 1
    refine List.filter_congr fun i _ => ?_
    rw [okP_succ, Bool.and_comm]
theorem sum_filt {p : Nat → Bool} {f : Nat → Int} : ∀ n, (((List.range n).filter p).map f).sum = sumN n fun i => if p i = true then f i else 0
  | 0 => rfl
  | n + 1 => by
    rw [List.range_succ, List.filter_append, List.map_append, List.sum_append, sum_filt n, sumN_s]
    congr 1
    cases h : p n with
    | true => rw [List.filter_cons_of_pos h]; simp
    | false => rw [List.filter_cons_of_neg (by rw [h]; exact Bool.false_ne_true)]; simp
def edgeP (sp : List (Nat × Nat)) (w : Int) (i j : Nat) : Int := if okP sp i (j - 1) = true then w ^ (j - 1 - i) else 0
theorem G_step {sp : List (Nat × Nat)} (hs : ∀ p ∈ sp, p.1 ≤ p.2) (w : Int) (n : Nat) : Gf sp w (n + 1) = sumN (n + 1) fun i => Gf sp w i * edgeP sp w i (n + 1) := by
  show ((cmL sp w n).map (·.2)).sum = _
  rw [cmL_form hs, List.map_map]
  rw [show ((fun (x : Int × Int) => x.2) ∘ fun (i : Nat) => ((i : Int) - 1, Gf sp w i * w ^ (n - i))) = fun (i : Nat) => Gf sp w i * w ^ (n - i) from rfl, sum_filt]
  refine sumN_congr fun i _ => ?_
  unfold edgeP
  rw [Nat.add_sub_cancel]
  cases okP sp i n with
  | true => rfl
  | false => rw [if_neg Bool.false_ne_true, if_neg Bool.false_ne_true, Int.mul_zero]
def nodeL (Ls : List Nat) (x : Nat) : Int := ([(-1 : Int)] ++ Ls.map (fun (i : Nat) => (i : Int)) ++ [60]).getD x 0
def okC (Ls : List Nat) (sp : List (Nat × Nat)) (x y : Nat) : Bool := sp.all fun p => !(decide (nodeL Ls x < (p.1 : Int)) && decide ((p.2 : Int) < nodeL Ls y))
def edgeC (Ls : List Nat) (sp : List (Nat × Nat)) (w : Int) (x y : Nat) : Int := if okC Ls sp x y = true then w ^ (y - 1 - x) else 0
/-- the counts from the node N - k on, N the last -/
def restC (Ls : List Nat) (sp : List (Nat × Nat)) (w : Int) : Nat → List Int
  | 0 => [1]
  | k + 1 => (sumN (k + 1) fun i => edgeC Ls sp w (Ls.length - k) (Ls.length - k + 1 + i) * (restC Ls sp w k).getD i 0) :: restC Ls sp w k
def chosF (Ls : List Nat) (sp : List (Nat × Nat)) (w : Int) : Int := (restC Ls sp w (Ls.length + 1)).headD 0
theorem rest_get (Ls : List Nat) (sp : List (Nat × Nat)) (w : Int) : ∀ k m, m ≤ k → (restC Ls sp w k).getD m 0 = (restC Ls sp w (k - m)).headD 0
  | k, 0, _ => by
    rw [Nat.sub_zero]
    cases k <;> rfl
  | k + 1, m + 1, h => by
    show (restC Ls sp w k).getD m 0 = _
    rw [rest_get Ls sp w k m (by omega), show k + 1 - (m + 1) = k - m by omega]
theorem chos_eq {Ls : List Nat} {sp sq : List (Nat × Nat)} {w : Int} (hs : ∀ p ∈ sp, p.1 ≤ p.2) (h : ∀ x y, x < y → y ≤ Ls.length + 1 → okP sp x (y - 1) = okC Ls sq x y) : cmF Ls.length sp w = chosF Ls sq w := by
  have key := both_ends (c := edgeC Ls sq w) (N := Ls.length + 1) (G := Gf sp w) (R := fun x => (restC Ls sq w (Ls.length + 1 - x)).headD 0) (by omega) rfl (fun j hj => by
    rw [G_step hs]
    refine sumN_congr fun i hi => ?_
    unfold edgeP edgeC
    rw [h i (j + 1) (by omega) (by omega)]) (by show (restC Ls sq w (Ls.length + 1 - (Ls.length + 1))).headD 0 = 1; rw [Nat.sub_self]; rfl) (fun i hi => by
    obtain ⟨k, hk⟩ : ∃ k, Ls.length + 1 - i = k + 1 := ⟨Ls.length - i, by omega⟩
    show (restC Ls sq w (Ls.length + 1 - i)).headD 0 = _
    rw [hk]
    show sumN (k + 1) _ = _
    refine sumN_congr fun m hm => ?_
    rw [rest_get _ _ _ _ _ (by omega), show Ls.length - k = i by omega]
    rw [show k - m = Ls.length + 1 - (i + 1 + m) by omega])
  exact key
theorem node_0 (Ls : List Nat) : nodeL Ls 0 = -1 := rfl
theorem node_s {Ls : List Nat} {k : Nat} (h : k < Ls.length) : nodeL Ls (k + 1) = (Ls[k] : Nat) := by
  unfold nodeL
  rw [List.getD_eq_getElem?_getD, List.append_assoc, List.getElem?_append_right (by simp), List.length_singleton, Nat.add_sub_cancel, List.getElem?_append_left (by rw [List.length_map]; exact h), List.getElem?_map, List.getElem?_eq_getElem h]
  rfl
theorem node_e (Ls : List Nat) : nodeL Ls (Ls.length + 1) = 60 := by
  unfold nodeL
  rw [List.getD_eq_getElem?_getD, List.getElem?_append_right (by simp)]
  simp
theorem spots_mem {Ls : List Nat} {s : Sg} {k : Nat} : k ∈ spotsF Ls s ↔ ∃ h : k < Ls.length, s.f ≤ Ls[k] ∧ Ls[k] ≤ s.l := by
  unfold spotsF
  rw [List.mem_filter, List.mem_range, Bool.and_eq_true, decide_eq_true_eq, decide_eq_true_eq]
  constructor
  · rintro ⟨h, h1, h2⟩
    rw [List.getD_eq_getElem?_getD, List.getElem?_eq_getElem h] at h1 h2
    exact ⟨h, h1, h2⟩
  · rintro ⟨h, h1, h2⟩
    rw [List.getD_eq_getElem?_getD, List.getElem?_eq_getElem h]
    exact ⟨h, h1, h2⟩
theorem spots_rise (Ls : List Nat) (s : Sg) : (spotsF Ls s).Pairwise (· < ·) := by
  unfold spotsF
  exact List.Pairwise.sublist List.filter_sublist List.pairwise_lt_range
theorem span_ends {Ls : List Nat} {s : Sg} (h : spotsF Ls s ≠ []) : ((spanF Ls s).1 ∈ spotsF Ls s ∧ ∀ k ∈ spotsF Ls s, (spanF Ls s).1 ≤ k) ∧ (spanF Ls s).2 ∈ spotsF Ls s ∧ ∀ k ∈ spotsF Ls s, k ≤ (spanF Ls s).2 := by
  have hr := spots_rise Ls s
  unfold spanF
  generalize spotsF Ls s = xs at h hr
  refine ⟨?_, ?_⟩
  · cases xs with
    | nil => exact absurd rfl h
    | cons a xs =>
      refine ⟨List.mem_cons_self, fun k hk => ?_⟩
      rcases List.mem_cons.mp hk with e | m
      · rw [e]; exact Nat.le_refl _
      · exact Nat.le_of_lt ((List.pairwise_cons.mp hr).1 k m)
  · have e2 : xs.getLastD 0 = xs.getLast h := by
      rw [List.getLastD_eq_getLast?, List.getLast?_eq_getLast h]; rfl
    show xs.getLastD 0 ∈ xs ∧ ∀ k ∈ xs, k ≤ xs.getLastD 0
    rw [e2]
    refine ⟨List.getLast_mem h, fun k hk => ?_⟩
    have e := (List.dropLast_concat_getLast h).symm
    generalize xs.getLast h = z at e ⊢
    rw [e] at hk hr
    rcases List.mem_append.mp hk with m | m
    · exact Nat.le_of_lt ((List.pairwise_append.mp hr).2.2 k m z (List.mem_singleton.mpr rfl))
    · rw [List.mem_singleton.mp m]; exact Nat.le_refl _
theorem rise_lt {Ls : List Nat} (hr : Ls.Pairwise (· < ·)) {i j : Nat} (hi : i < Ls.length) (hj : j < Ls.length) : Ls[i] < Ls[j] ↔ i < j := by
  have mono : ∀ {a b : Nat} (ha : a < Ls.length) (hb : b < Ls.length), a < b → Ls[a] < Ls[b] := fun ha hb h => List.pairwise_iff_getElem.mp hr _ _ ha hb h
  constructor
  · intro h
    rcases Nat.lt_trichotomy i j with c | c | c
    · exact c
    · subst c; omega
    · have := mono hj hi c; omega
  · exact mono hi hj
theorem ok_same {Ls : List Nat} {ts : List Sg} (hr : Ls.Pairwise (· < ·)) (h60 : ∀ x ∈ Ls, x < 60) (hl : ∀ s ∈ ts, s.l < 60) (hne : ∀ s ∈ ts, spotsF Ls s ≠ []) {x y : Nat} (hxy : x < y) (hy : y ≤ Ls.length + 1) : okP (ts.map (spanF Ls)) x (y - 1) = okC Ls (ts.map fun s => (s.f, s.l)) x y := by
  unfold okP okC
  rw [List.all_map, List.all_map, Bool.eq_iff_iff, List.all_eq_true, List.all_eq_true]
  refine forall_congr' fun s => forall_congr' fun hs => ?_
  obtain ⟨⟨a1, a2⟩, b1, b2⟩ := span_ends (hne s hs)
  have hl := hl s hs
  show (!(decide (x ≤ (spanF Ls s).1) && decide ((spanF Ls s).2 < y - 1))) = true ↔ (!(decide (nodeL Ls x < (s.f : Int)) && decide ((s.l : Int) < nodeL Ls y))) = true
  generalize (spanF Ls s).1 = a at a1 a2 ⊢
  generalize (spanF Ls s).2 = b at b1 b2 ⊢
  obtain ⟨ha, a3, a4⟩ := spots_mem.mp a1
  obtain ⟨hb, b3, b4⟩ := spots_mem.mp b1
  have e1 : x ≤ a ↔ nodeL Ls x < (s.f : Int) := by
    cases x with
    | zero => rw [node_0]; constructor <;> intro <;> omega
    | succ m =>
      have hm : m < Ls.length := by omega
      rw [node_s hm]
      constructor
      · intro h
        by_cases c : Ls[m] < s.f
        · omega
        · exfalso
          have h1 : Ls[m] < Ls[a] := (rise_lt hr hm ha).mpr (by omega)
          have := a2 m (spots_mem.mpr ⟨hm, by omega, by omega⟩)
          omega
      · intro h
        have h1 : Ls[m] < Ls[a] := by omega
        have := (rise_lt hr hm ha).mp h1
        omega
  have e2 : b < y - 1 ↔ (s.l : Int) < nodeL Ls y := by
    cases y with
    | zero => omega
    | succ m =>
      rw [Nat.add_sub_cancel]
      by_cases hm : m < Ls.length
      · rw [node_s hm]
        constructor
        · intro h
          by_cases c : s.l < Ls[m]
          · omega
          · exfalso
            have h1 : Ls[b] < Ls[m] := (rise_lt hr hb hm).mpr h
            have := b2 m (spots_mem.mpr ⟨hm, by omega, by omega⟩)
            omega
        · intro h
          have h1 : Ls[b] < Ls[m] := by omega
          exact (rise_lt hr hb hm).mp h1
      · have em : m = Ls.length := by omega
        subst em
        rw [node_e]
        constructor <;> intro <;> omega
  rw [decide_eq_decide.mpr e1, decide_eq_decide.mpr e2]
/-- the law's spans -/
def spansL (ss : List Sg) (c : Nat) (w : Int) : List (Nat × Nat) := (ss.filter fun s => decide (s.c = c) && decide (s.w = w)).map fun s => (s.f, s.l)
theorem lines_rise (t : List Nat) (ss : List Sg) (c : Nat) (w : Int) : (linesF t ss c w).Pairwise (· < ·) := by
  unfold linesF
  exact List.Pairwise.sublist List.filter_sublist List.pairwise_lt_range
theorem lines_lt {t : List Nat} {ss : List Sg} {c : Nat} {w : Int} : ∀ x ∈ linesF t ss c w, x < t.length := fun x hx => List.mem_range.mp (List.mem_filter.mp hx).1
theorem ways1_eq {t : List Nat} {ss : List Sg} (ok : TabsOk t) (oks : SgsOk t ss) (hcf : conflD ss = .non) (c : Nat) (w : Int) : ways1 t ss ((c : Int), w) = chosF (linesF t ss c w) (spansL ss c w) w := by
  have h60 := ok.hi
  have hne : ∀ s ∈ ss.filter (fun s => decide (s.c = c) && decide (s.w = w)), spotsF (linesF t ss c w) s ≠ [] := fun s hs => by
    obtain ⟨h1, h2⟩ := List.mem_filter.mp hs
    obtain ⟨h3, h4⟩ := Bool.and_eq_true_iff.mp h2
    have ec := of_decide_eq_true h3
    have ew := of_decide_eq_true h4
    have so := oks.at_ s h1
    obtain ⟨j, k1, k2, k3⟩ := confl_no hcf h1 so.fl
    have : j ∈ linesF t ss c w := List.mem_filter.mpr ⟨List.mem_range.mpr (Nat.lt_of_le_of_lt k2 so.l), by
      have := so.has j k1 k2
      rw [ec] at this k3
      rw [ew] at k3
      rw [decide_eq_true this, k3]
      simp⟩
    obtain ⟨k, hk, ek⟩ := List.getElem_of_mem this
    intro z
    have hm : k ∈ spotsF (linesF t ss c w) s := spots_mem.mpr ⟨hk, by omega, by omega⟩
    rw [z] at hm
    cases hm
  show cmF (linesF t ss c w).length (spansF ss (linesF t ss c w) c w) w = _
  refine chos_eq (fun p hp => ?_) fun x y hxy hy => ?_
  · obtain ⟨s, hs, rfl⟩ := List.mem_map.mp hp
    obtain ⟨⟨a1, a2⟩, b1, b2⟩ := span_ends (hne s hs)
    exact a2 _ b1
  · exact ok_same (lines_rise _ _ _ _) (fun x hx => Nat.lt_of_lt_of_le (lines_lt x hx) h60) (fun s hs => Nat.lt_of_lt_of_le (oks.at_ s (List.mem_filter.mp hs).1).l h60) hne hxy hy
/-- nothing depends on the order of the sights -/
theorem best_perm {ss ts : List Sg} (h : ∀ s, s ∈ ts ↔ s ∈ ss) (i c : Nat) : bestF ts i c = bestF ss i c := by
  have one : ∀ {us vs : List Sg}, (∀ s, s ∈ us ↔ s ∈ vs) → ∀ u, bestF us i c = some u → ∃ v, bestF vs i c = some v ∧ v ≤ u := fun {us vs} h u e => by
    rcases best_has us none i c u e with z | ⟨s, hs, hb, rfl⟩
    · cases z
    · obtain ⟨v, hv⟩ := best_some ((h s).mp hs) hb
      exact ⟨v, hv, best_le hv ((h s).mp hs) hb⟩
  cases e : bestF ts i c with
  | none =>
    cases e2 : bestF ss i c with
    | none => rfl
    | some v =>
      obtain ⟨u, hu, _⟩ := one (fun s => (h s).symm) v e2
      rw [e] at hu
      cases hu
  | some u =>
    obtain ⟨v, hv, h1⟩ := one h u e
    obtain ⟨u2, hu, h2⟩ := one (fun s => (h s).symm) v hv
    rw [e] at hu
    cases hu
    rw [hv]
    congr 1
    omega
theorem chos_perm {Ls : List Nat} {sp sq : List (Nat × Nat)} {w : Int} (h : ∀ p, p ∈ sp ↔ p ∈ sq) : chosF Ls sp w = chosF Ls sq w := by
  have e : ∀ x y, okC Ls sp x y = okC Ls sq x y := fun x y => by
    unfold okC
    rw [Bool.eq_iff_iff, List.all_eq_true, List.all_eq_true]
    exact ⟨fun k p hp => k p ((h p).mpr hp), fun k p hp => k p ((h p).mp hp)⟩
  have r : ∀ k, restC Ls sp w k = restC Ls sq w k := fun k => by
    induction k with
    | zero => rfl
    | succ k ih =>
      show sumN _ _ :: _ = sumN _ _ :: _
      rw [ih]
      congr 1
      refine sumN_congr fun i _ => ?_
      unfold edgeC
      rw [e]
  unfold chosF
  rw [r]
theorem lines_perm {t : List Nat} {ss ts : List Sg} (h : ∀ s, s ∈ ts ↔ s ∈ ss) (c : Nat) (w : Int) : linesF t ts c w = linesF t ss c w := by
  unfold linesF
  refine List.filter_congr fun i _ => ?_
  rw [best_perm h]
/-- the law's number of ways -/
def dueF (t : List Nat) (ss : List Sg) (qs : List (Int × Int)) : Int := qs.foldl (fun m q => m * chosF (linesF t ss q.1.toNat q.2) (spansL ss q.1.toNat q.2) q.2) 1
theorem foldl_congr' {α β : Type} {f g : β → α → β} : ∀ {qs : List α} (b : β), (∀ q ∈ qs, ∀ b, f b q = g b q) → qs.foldl f b = qs.foldl g b
  | [], _, _ => rfl
  | q :: qs, b, h => by
    rw [List.foldl_cons, List.foldl_cons, h q List.mem_cons_self]
    exact foldl_congr' _ fun r hr => h r (List.mem_cons_of_mem _ hr)
theorem ways_due {t : List Nat} {ss ts : List Sg} (ok : TabsOk t) (okt : SgsOk t ts) (hcf : conflD ts = .non) (h : ∀ s, s ∈ ts ↔ s ∈ ss) {qs : List (Int × Int)} (hq : ∀ p, p ∈ qs → p ∈ ts.map fun s => ((s.c : Int), s.w)) : waysF t ts qs = dueF t ss qs := by
  unfold waysF dueF
  refine foldl_congr' _ fun q hqm b => ?_
  congr 1
  obtain ⟨s, hs, rfl⟩ := List.mem_map.mp (hq q hqm)
  rw [ways1_eq ok okt hcf, lines_perm h]
  refine chos_perm fun p => ?_
  unfold spansL
  rw [List.mem_map, List.mem_map]
  constructor
  · rintro ⟨s2, h2, e⟩
    obtain ⟨h3, h4⟩ := List.mem_filter.mp h2
    exact ⟨s2, List.mem_filter.mpr ⟨(h s2).mp h3, h4⟩, e⟩
  · rintro ⟨s2, h2, e⟩
    obtain ⟨h3, h4⟩ := List.mem_filter.mp h2
    exact ⟨s2, List.mem_filter.mpr ⟨(h s2).mpr h3, h4⟩, e⟩
def okX (sp : List (Nat × Nat)) (a b : Int) : Bool := sp.all fun p => !(decide (a < (p.1 : Int)) && decide ((p.2 : Int) < b))
def cnt (sp : List (Nat × Nat)) (w : Int) : List Nat → Int → Int
  | [], a => if okX sp a 60 = true then 1 else 0
  | x :: L, a => (if okX sp a x = true then cnt sp w L x else 0) + w * cnt sp w L a
theorem cnt_sum (Ls : List Nat) (sp : List (Nat × Nat)) (w : Int) : ∀ j k a, k + j = Ls.length → cnt sp w (Ls.drop k) a = sumN (j + 1) fun i => (if okX sp a (nodeL Ls (k + 1 + i)) = true then w ^ i else 0) * (restC Ls sp w (j - i)).headD 0 := by
  intro j
  induction j with
  | zero =>
    intro k a hk
    have e : k = Ls.length := by omega
    subst e
    rw [List.drop_length, sumN_s, sumN_0, Int.zero_add]
    show (if okX sp a 60 = true then (1 : Int) else 0) = (if okX sp a (nodeL Ls (Ls.length + 1)) = true then w ^ 0 else 0) * 1
    rw [node_e, Int.pow_zero, Int.mul_one]
  | succ j ih =>
    intro k a hk
    have hk2 : k < Ls.length := by omega
    rw [List.drop_eq_getElem_cons hk2]
    show (if okX sp a (Ls[k] : Nat) = true then cnt sp w (Ls.drop (k + 1)) (Ls[k] : Nat) else 0) + w * cnt sp w (Ls.drop (k + 1)) a = _
    rw [sumN_h, ih (k + 1) a (by omega), ih (k + 1) (Ls[k] : Nat) (by omega)]
    congr 1
    · have hr : (restC Ls sp w (j + 1 - 0)).headD 0 = sumN (j + 1) fun i => (if okX sp (Ls[k] : Nat) (nodeL Ls (k + 1 + 1 + i)) = true then w ^ i else 0) * (restC Ls sp w (j - i)).headD 0 := by
        rw [Nat.sub_zero]
        show sumN (j + 1) _ = _
        refine sumN_congr fun i hi => ?_
        rw [rest_get _ _ _ _ _ (by omega)]
        congr 1
        unfold edgeC
        have ex : Ls.length - j = k + 1 := by omega
        rw [ex]
        have e1 : okC Ls sp (k + 1) (k + 1 + 1 + i) = okX sp (Ls[k] : Nat) (nodeL Ls (k + 1 + 1 + i)) := by
          unfold okC okX
          rw [node_s hk2]
        rw [e1, show k + 1 + 1 + i - 1 - (k + 1) = i by omega]
      rw [hr, Nat.add_zero, node_s hk2, Int.pow_zero]
      cases okX sp a (Ls[k] : Nat) with
      | true => rw [if_pos rfl, if_pos rfl, Int.one_mul]
      | false => rw [if_neg Bool.false_ne_true, if_neg Bool.false_ne_true, Int.zero_mul]
    · rw [Int.mul_comm, ← sumN_mul]
      refine sumN_congr fun i hi => ?_
      rw [show k + 1 + (i + 1) = k + 1 + 1 + i by omega, show j + 1 - (i + 1) = j - i by omega]
      cases okX sp a (nodeL Ls (k + 1 + 1 + i)) with
      | true => rw [if_pos rfl, if_pos rfl, Int.pow_succ, Int.mul_right_comm]
      | false => rw [if_neg Bool.false_ne_true, if_neg Bool.false_ne_true, Int.zero_mul, Int.zero_mul]
theorem chos_cnt (Ls : List Nat) (sp : List (Nat × Nat)) (w : Int) : chosF Ls sp w = cnt sp w Ls (-1) := by
  have h := cnt_sum Ls sp w Ls.length 0 (-1) (by omega)
  rw [List.drop_zero] at h
  rw [h]
  show sumN (Ls.length + 1) _ = _
  refine sumN_congr fun i hi => ?_
  rw [rest_get _ _ _ _ _ (by omega), Nat.sub_self]
  congr 1
  unfold edgeC
  have e1 : okC Ls sp 0 (0 + 1 + i) = okX sp (-1) (nodeL Ls (0 + 1 + i)) := by
    unfold okC okX
    rw [node_0]
  rw [e1, show 0 + 1 + i - 1 - 0 = i by omega]
theorem best_is {ss : List Sg} {i c : Nat} {u : Int} : bestF ss i c = some u ↔ (∃ s ∈ ss, hasB s i c = true ∧ s.w = u) ∧ ∀ s ∈ ss, hasB s i c = true → u ≤ s.w := by
  constructor
  · intro h
    refine ⟨?_, fun s hs hb => best_le h hs hb⟩
    rcases best_has ss none i c u h with z | ⟨s, hs, hb, rfl⟩
    · cases z
    · exact ⟨s, hs, hb, rfl⟩
  · rintro ⟨⟨s, hs, hb, rfl⟩, h⟩
    obtain ⟨v, hv⟩ := best_some hs hb
    have h1 := best_le hv hs hb
    rcases best_has ss none i c v hv with z | ⟨s2, hs2, hb2, rfl⟩
    · cases z
    · have := h s2 hs2 hb2
      rw [hv]
      congr 1
      omega
/-- the ways of a class -/
def Kf (t : List Nat) (ss : List Sg) (c : Nat) (w : Int) : Int := cnt (spansL ss c w) w (linesF t ss c w) (-1)
theorem spans_mem {ss : List Sg} {c : Nat} {w : Int} {q : Nat × Nat} : q ∈ spansL ss c w ↔ ∃ s ∈ ss, s.c = c ∧ s.w = w ∧ (s.f, s.l) = q := by
  unfold spansL
  rw [List.mem_map]
  constructor
  · rintro ⟨s, hs, e⟩
    obtain ⟨h1, h2⟩ := List.mem_filter.mp hs
    obtain ⟨h3, h4⟩ := Bool.and_eq_true_iff.mp h2
    exact ⟨s, h1, of_decide_eq_true h3, of_decide_eq_true h4, e⟩
  · rintro ⟨s, hs, h1, h2, e⟩
    exact ⟨s, List.mem_filter.mpr ⟨hs, by rw [decide_eq_true h1, decide_eq_true h2]; rfl⟩, e⟩
theorem Kf_one {t : List Nat} {ss : List Sg} {c : Nat} {w : Int} (h : ∀ s ∈ ss, ¬ (s.c = c ∧ s.w = w)) : Kf t ss c w = 1 := by
  have h1 : linesF t ss c w = [] := by
    unfold linesF
    rw [List.filter_eq_nil_iff]
    intro i hi z
    obtain ⟨_, h2⟩ := Bool.and_eq_true_iff.mp z
    obtain ⟨⟨s, hs, h3, h4⟩, _⟩ := best_is.mp (eq_of_beq h2)
    exact h s hs ⟨(hasB_iff.mp h3).1, h4⟩
  have h2 : spansL ss c w = [] := List.eq_nil_iff_forall_not_mem.mpr fun q hq => by
    obtain ⟨s, hs, e1, e2, _⟩ := spans_mem.mp hq
    exact h s hs ⟨e1, e2⟩
  unfold Kf
  rw [h1, h2]
  rfl
def prodI {α : Type} (f : α → Int) : List α → Int
  | [] => 1
  | q :: qs => f q * prodI f qs
theorem prod_perm {α : Type} {f : α → Int} {as bs : List α} (h : as.Perm bs) : prodI f as = prodI f bs := by
  induction h with
  | nil => rfl
  | cons x _ ih => show f x * _ = f x * _; rw [ih]
  | swap x y l =>
    show f y * (f x * prodI f l) = f x * (f y * prodI f l)
    rw [← Int.mul_assoc, ← Int.mul_assoc, Int.mul_comm (f y) (f x)]
  | trans _ _ i1 i2 => rw [i1, i2]
theorem prod_congr {α : Type} {f g : α → Int} : ∀ {qs : List α}, (∀ q ∈ qs, f q = g q) → prodI f qs = prodI g qs
  | [], _ => rfl
  | q :: qs, h => by
    show f q * prodI f qs = g q * prodI g qs
    rw [h q List.mem_cons_self, prod_congr fun r hr => h r (List.mem_cons_of_mem _ hr)]
theorem prod_one {α : Type} {f : α → Int} : ∀ {qs : List α}, (∀ q ∈ qs, f q = 1) → prodI f qs = 1
  | [], _ => rfl
  | q :: qs, h => by
    show f q * prodI f qs = 1
    rw [h q List.mem_cons_self, prod_one fun r hr => h r (List.mem_cons_of_mem _ hr), Int.one_mul]
theorem prod_off {α : Type} [DecidableEq α] {f : α → Int} {Q : List α} {q : α} (h : q ∈ Q) : prodI f Q = f q * prodI f (Q.erase q) := prod_perm (List.perm_cons_erase h)
theorem prod_sub {α : Type} [DecidableEq α] {f : α → Int} : ∀ (qs Q : List α), qs.Nodup → Q.Nodup → (∀ q ∈ qs, q ∈ Q) → (∀ q ∈ Q, q ∉ qs → f q = 1) → prodI f qs = prodI f Q
  | [], Q, _, _, _, h => (prod_one fun q hq => h q hq List.not_mem_nil).symm
  | q :: qs, Q, n1, n2, hs, h => by
    obtain ⟨n3, n4⟩ := List.nodup_cons.mp n1
    have hq := hs q List.mem_cons_self
    rw [prod_off hq]
    show f q * prodI f qs = f q * prodI f (Q.erase q)
    congr 1
    refine prod_sub qs (Q.erase q) n4 (n2.erase q) (fun r hr => ?_) fun r hr hn => ?_
    · exact (List.mem_erase_of_ne fun (e : r = q) => n3 (e ▸ hr)).mpr (hs r (List.mem_cons_of_mem _ hr))
    · have hr2 := List.mem_of_mem_erase hr
      refine h r hr2 fun z => ?_
      rcases List.mem_cons.mp z with e | m
      · subst e
        exact (List.Nodup.not_mem_erase n2) hr
      · exact hn m
theorem fold_prod {α : Type} {f : α → Int} : ∀ (qs : List α) (b : Int), qs.foldl (fun m q => m * f q) b = b * prodI f qs
  | [], b => (Int.mul_one b).symm
  | q :: qs, b => by
    rw [List.foldl_cons, fold_prod qs, Int.mul_assoc]
    rfl
theorem prod_map {α β : Type} {f : β → Int} (g : α → β) : ∀ qs : List α, prodI f (qs.map g) = prodI (fun q => f (g q)) qs
  | [] => rfl
  | q :: qs => by
    show f (g q) * prodI f (qs.map g) = f (g q) * prodI (fun q => f (g q)) qs
    rw [prod_map g qs]
def KQ (t : List Nat) (ss : List Sg) (Q : List (Nat × Int)) : Int := prodI (fun q => Kf t ss q.1 q.2) Q
/-- the number of ways, over all classes and more -/
theorem ways_Q {t : List Nat} {ss : List Sg} (ok : TabsOk t) (oks : SgsOk t ss) (hcf : conflD ss = .non) {qs : List (Int × Int)} (hq : ∀ p, p ∈ qs ↔ p ∈ ss.map fun s => ((s.c : Int), s.w)) (hpw : qs.Pairwise ltP) {Q : List (Nat × Int)} (hQ : Q.Nodup) (hsub : ∀ s ∈ ss, (s.c, s.w) ∈ Q) : waysF t ss qs = KQ t ss Q := by
  rw [ways_due ok oks hcf (fun _ => Iff.rfl) fun p hp => (hq p).mp hp]
  unfold dueF
  rw [fold_prod, Int.one_mul]
  have nn : ∀ q ∈ qs, ∃ s ∈ ss, ((s.c : Int), s.w) = q := fun q h => List.mem_map.mp ((hq q).mp h)
  have e1 : prodI (fun (q : Int × Int) => chosF (linesF t ss q.1.toNat q.2) (spansL ss q.1.toNat q.2) q.2) qs = prodI (fun (q : Nat × Int) => Kf t ss q.1 q.2) (qs.map fun q => (q.1.toNat, q.2)) := by
    rw [prod_map]
    exact prod_congr fun q _ => chos_cnt _ _ _
  rw [e1]
  refine prod_sub _ _ ?_ hQ (fun q h => ?_) fun q h hn => ?_
  · unfold List.Nodup
    rw [List.pairwise_map]
    refine (List.Pairwise.and_mem.mp hpw).imp fun {a b} h => ?_
    obtain ⟨ha, hb, h⟩ := h
    obtain ⟨s, _, rfl⟩ := nn a ha
    obtain ⟨s2, _, rfl⟩ := nn b hb
    intro z
    injection z with z1 z2
    dsimp only at z1 z2
    rcases h with h | h <;> dsimp only at h <;> omega
  · obtain ⟨r, hr, rfl⟩ := List.mem_map.mp h
    obtain ⟨s, hs, rfl⟩ := nn r hr
    exact hsub s hs
  · refine Kf_one fun s hs z => hn ?_
    refine List.mem_map.mpr ⟨((s.c : Int), s.w), (hq _).mpr (List.mem_map.mpr ⟨s, hs, rfl⟩), ?_⟩
    show ((s.c : Int).toNat, s.w) = q
    rw [z.2, Int.toNat_natCast, z.1]
/-- a sight with this bound for one cell alone -/
def Sole (ss : List Sg) (p a : Nat) (b : Int) : Prop := ∃ s ∈ ss, hasB s a p = true ∧ s.w = b ∧ ∀ j, s.f ≤ j → j ≤ s.l → bestF ss j p = some b → j = a
/-- the ways to give each cell its bound or less, so that the chosen ones (those at their bound) satisfy P -/
def NB {α : Type} (b : α → Int) : List α → (List α → Bool) → Int
  | [], P => if P [] = true then 1 else 0
  | x :: X, P => NB b X (fun T => P (x :: T)) + b x * NB b X P
theorem nb_snoc {α : Type} {b : α → Int} (x : α) : ∀ (X : List α) (P : List α → Bool), NB b (X ++ [x]) P = NB b X (fun T => P (T ++ [x])) + b x * NB b X P
  | [], P => rfl
  | y :: X, P => by
    show NB b (X ++ [x]) (fun T => P (y :: T)) + b y * NB b (X ++ [x]) P = (NB b X (fun T => P (y :: T ++ [x])) + b y * NB b X (fun T => P (T ++ [x]))) + b x * (NB b X (fun T => P (y :: T)) + b y * NB b X P)
    rw [nb_snoc x X (fun T => P (y :: T)), nb_snoc x X P, Int.mul_add, Int.mul_add, Int.mul_left_comm (b x) (b y)]
    show (NB b X (fun T => P (y :: (T ++ [x]))) + b x * NB b X fun T => P (y :: T)) + (b y * NB b X (fun T => P (T ++ [x])) + b y * (b x * NB b X P)) = (NB b X (fun T => P (y :: (T ++ [x]))) + b y * NB b X (fun T => P (T ++ [x]))) + (b x * NB b X (fun T => P (y :: T)) + b y * (b x * NB b X P))
    omega
theorem nb_congr {α : Type} {b : α → Int} : ∀ {X : List α} {P P' : List α → Bool}, (∀ T : List α, T.Sublist X → P T = P' T) → NB b X P = NB b X P'
  | [], P, P', h => by
    show (if P [] = true then (1 : Int) else 0) = if P' [] = true then 1 else 0
    rw [h [] (List.Sublist.refl _)]
  | x :: X, P, P', h => by
    show NB b X (fun T => P (x :: T)) + b x * NB b X P = NB b X (fun T => P' (x :: T)) + b x * NB b X P'
    rw [nb_congr (P := fun T => P (x :: T)) (P' := fun T => P' (x :: T)) fun T hT => h _ (List.Sublist.cons₂ x hT), nb_congr (P := P) (P' := P') fun T hT => h T (List.Sublist.cons x hT)]
/-- P looks at the members only -/
def Memb {α : Type} (P : List α → Bool) : Prop := ∀ T T' : List α, (∀ x, x ∈ T ↔ x ∈ T') → P T = P T'
theorem Memb.cons {α : Type} {P : List α → Bool} (h : Memb P) (x : α) : Memb fun T => P (x :: T) := fun T T' e => h _ _ fun y => by rw [List.mem_cons, List.mem_cons, e]
theorem nb_perm {α : Type} {b : α → Int} {X Y : List α} (h : X.Perm Y) : ∀ {P : List α → Bool}, Memb P → NB b X P = NB b Y P := by
  induction h with
  | nil => intro P _; rfl
  | cons x _ ih =>
    intro P hP
    show NB b _ (fun T => P (x :: T)) + b x * NB b _ P = NB b _ (fun T => P (x :: T)) + b x * NB b _ P
    rw [ih (hP.cons x), ih hP]
  | swap x y l =>
    intro P hP
    show (NB b l (fun T => P (y :: x :: T)) + b x * NB b l (fun T => P (y :: T))) + b y * (NB b l (fun T => P (x :: T)) + b x * NB b l P) = (NB b l (fun T => P (x :: y :: T)) + b y * NB b l (fun T => P (x :: T))) + b x * (NB b l (fun T => P (y :: T)) + b y * NB b l P)
    have e : NB b l (fun T => P (y :: x :: T)) = NB b l (fun T => P (x :: y :: T)) := nb_congr fun T _ => hP _ _ fun z => by simp only [List.mem_cons]; exact or_left_comm
    rw [e, Int.mul_add, Int.mul_add, Int.mul_left_comm (b y) (b x)]
    omega
  | trans _ _ i1 i2 => intro P hP; rw [i1 hP, i2 hP]
/-- two parts that do not look at each other -/
theorem nb_both {α : Type} {b : α → Int} {X2 : List α} {P2 : List α → Bool} : ∀ {X1 : List α} {P P1 : List α → Bool}, (∀ T1 T2 : List α, T1.Sublist X1 → T2.Sublist X2 → P (T1 ++ T2) = (P1 T1 && P2 T2)) → NB b (X1 ++ X2) P = NB b X1 P1 * NB b X2 P2
  | [], P, P1, h => by
    have e : ∀ T : List α, T.Sublist X2 → P T = (P1 [] && P2 T) := fun T hT => h [] T (List.Sublist.refl _) hT
    show NB b X2 P = (if P1 [] = true then (1 : Int) else 0) * NB b X2 P2
    rw [nb_congr e]
    cases P1 [] with
    | true => rw [if_pos rfl, Int.one_mul]; exact nb_congr fun T _ => Bool.true_and _
    | false =>
      rw [if_neg Bool.false_ne_true, Int.zero_mul]
      have z : ∀ X : List α, NB b X (fun _ => false) = 0 := fun X => by
        induction X with
        | nil => rfl
        | cons x X ih =>
          show NB b X (fun _ => false) + b x * NB b X (fun _ => false) = 0
          rw [ih, Int.mul_zero]
          rfl
      exact z X2
  | x :: X1, P, P1, h => by
    show NB b (X1 ++ X2) (fun T => P (x :: T)) + b x * NB b (X1 ++ X2) P = (NB b X1 (fun T => P1 (x :: T)) + b x * NB b X1 P1) * NB b X2 P2
    rw [nb_both (X1 := X1) (P := fun T => P (x :: T)) (P1 := fun T => P1 (x :: T)) fun T1 T2 h1 h2 => h (x :: T1) T2 (List.Sublist.cons₂ x h1) h2, nb_both (X1 := X1) (P := P) (P1 := P1) fun T1 T2 h1 h2 => h T1 T2 (List.Sublist.cons x h1) h2, Int.add_mul, Int.mul_assoc]
theorem rowsN_len {m : Nat} : ∀ {n : Nat} {r : List Nat}, r ∈ rowsN m n → r.length = n
  | 0, r, h => by rw [List.mem_singleton.mp h]; rfl
  | n + 1, r, h => by
    obtain ⟨r2, h2, h3⟩ := List.mem_flatMap.mp h
    obtain ⟨v, _, rfl⟩ := List.mem_map.mp h3
    rw [List.length_append, rowsN_len h2]
    rfl
/-- the cells at their bound -/
def topsN {α : Type} (b : α → Nat) (X : List α) (r : List Nat) : List α := ((X.zip r).filter fun p => decide (p.2 = b p.1)).map (·.1)
/-- no cell above its bound -/
def underN {α : Type} (b : α → Nat) (X : List α) (r : List Nat) : Bool := (X.zip r).all fun p => decide (p.2 ≤ b p.1)
theorem tops_snoc {α : Type} {b : α → Nat} {X : List α} {r : List Nat} (h : X.length = r.length) (x : α) (v : Nat) : topsN b (X ++ [x]) (r ++ [v]) = topsN b X r ++ if v = b x then [x] else [] := by
  unfold topsN
  rw [List.zip_append h, List.filter_append, List.map_append]
  congr 1
  show ((([(x, v)] : List (α × Nat)).filter fun p => decide (p.2 = b p.1)).map (·.1)) = _
  by_cases c : v = b x
  · rw [if_pos c, List.filter_cons_of_pos (by exact decide_eq_true c)]; rfl
  · rw [if_neg c, List.filter_cons_of_neg (by exact fun z => c (of_decide_eq_true z))]; rfl
theorem under_snoc {α : Type} {b : α → Nat} {X : List α} {r : List Nat} (h : X.length = r.length) (x : α) (v : Nat) : underN b (X ++ [x]) (r ++ [v]) = (underN b X r && decide (v ≤ b x)) := by
  unfold underN
  rw [List.zip_append h, List.all_append]
  simp
def sumL (xs : List Int) : Int := xs.foldr (· + ·) 0
theorem sumL_append : ∀ xs ys : List Int, sumL (xs ++ ys) = sumL xs + sumL ys
  | [], ys => (Int.zero_add _).symm
  | x :: xs, ys => by
    show x + sumL (xs ++ ys) = x + sumL xs + sumL ys
    rw [sumL_append xs ys]
    omega
/-- how many rows satisfy p, as a sum -/
def numB (b : Bool) : Int := if b = true then 1 else 0
theorem count_sum {α : Type} {p : α → Bool} : ∀ xs : List α, ((xs.filter p).length : Int) = sumL (xs.map fun x => numB (p x))
  | [] => rfl
  | x :: xs => by
    show _ = numB (p x) + sumL (xs.map fun x => numB (p x))
    rw [← count_sum xs, List.filter_cons]
    cases p x with
    | true => rw [if_pos rfl, List.length_cons]; show _ = (1 : Int) + _; omega
    | false => rw [if_neg Bool.false_ne_true]; show _ = (0 : Int) + _; omega
theorem one_row {B m : Nat} (hB : B ≤ m) (t f : Bool) : sumL ((List.range (m + 1)).map fun v => numB (decide (v ≤ B) && if v = B then t else f)) = numB t + (B : Int) * numB f := by
  have gen : ∀ n, sumL ((List.range n).map fun v => numB (decide (v ≤ B) && if v = B then t else f)) = (if B < n then numB t else 0) + ((min n B : Nat) : Int) * numB f := by
    intro n
    induction n with
    | zero => simp [sumL]
    | succ n ih =>
      rw [List.range_succ, List.map_append, sumL_append, ih]
      show _ + (numB (decide (n ≤ B) && if n = B then t else f) + 0) = _
      rcases Nat.lt_trichotomy n B with c | c | c
      · rw [if_neg (by omega), if_neg (by omega), decide_eq_true (by omega), if_neg (by omega), Bool.true_and, show min n B = n by omega, show min (n + 1) B = n + 1 by omega, show ((n + 1 : Nat) : Int) = (n : Int) + 1 by omega, Int.add_mul, Int.one_mul]
        omega
      · rw [if_neg (by omega), if_pos c, decide_eq_true (by omega), if_pos (by omega), Bool.true_and, show min n B = B by omega, show min (n + 1) B = B by omega]
        omega
      · rw [if_pos (by omega), decide_eq_false (by omega), Bool.false_and, if_pos (by omega), show min n B = B by omega, show min (n + 1) B = B by omega]
        show _ + _ + ((0 : Int) + 0) = _
        omega
  rw [gen, if_pos (by omega), show min (m + 1) B = B by omega]
theorem sumL_congr {α : Type} {f g : α → Int} : ∀ {xs : List α}, (∀ x ∈ xs, f x = g x) → sumL (xs.map f) = sumL (xs.map g)
  | [], _ => rfl
  | x :: xs, h => by
    show f x + sumL (xs.map f) = g x + sumL (xs.map g)
    rw [h x List.mem_cons_self, sumL_congr fun y hy => h y (List.mem_cons_of_mem _ hy)]
theorem sumL_flat {α β : Type} {g : β → Int} (f : α → List β) : ∀ xs : List α, sumL ((xs.flatMap f).map g) = sumL (xs.map fun x => sumL ((f x).map g))
  | [] => rfl
  | x :: xs => by
    rw [List.flatMap_cons, List.map_append, sumL_append, sumL_flat f xs]
    rfl
theorem sumL_add {α : Type} (f g : α → Int) (c : Int) : ∀ xs : List α, sumL (xs.map fun x => f x + c * g x) = sumL (xs.map f) + c * sumL (xs.map g)
  | [] => by show (0 : Int) = 0 + c * 0; rw [Int.mul_zero]; rfl
  | x :: xs => by
    show (f x + c * g x) + sumL (xs.map fun x => f x + c * g x) = (f x + sumL (xs.map f)) + c * (g x + sumL (xs.map g))
    rw [sumL_add f g c xs, Int.mul_add]
    omega
/-- all rows with no cell above its bound and a good choice -/
theorem rows_count {α : Type} {b : α → Nat} {m : Nat} : ∀ (n : Nat) (X : List α) (P : List α → Bool), X.length = n → (∀ x ∈ X, b x ≤ m) → sumL ((rowsN m n).map fun r => numB (underN b X r && P (topsN b X r))) = NB (fun x => (b x : Int)) X P := by
  intro n
  induction n with
  | zero =>
    intro X P hl _
    rw [List.length_eq_zero_iff.mp hl]
    show numB (true && P []) + 0 = if P [] = true then 1 else 0
    rw [Bool.true_and, Int.add_zero]
    rfl
  | succ n ih =>
    intro X P hl hb
    obtain ⟨Y, x, rfl⟩ : ∃ Y x, X = Y ++ [x] := ⟨X.dropLast, X.getLast (by intro z; rw [z] at hl; cases hl), (List.dropLast_concat_getLast _).symm⟩
    have hlY : Y.length = n := by rw [List.length_append] at hl; simpa using hl
    have hbY : ∀ y ∈ Y, b y ≤ m := fun y hy => hb y (List.mem_append.mpr (.inl hy))
    have hbx : b x ≤ m := hb x (List.mem_append.mpr (.inr (List.mem_singleton.mpr rfl)))
    rw [nb_snoc, ← ih Y (fun T => P (T ++ [x])) hlY hbY, ← ih Y P hlY hbY, ← sumL_add]
    show sumL (((rowsN m n).flatMap fun r => (List.range (m + 1)).map fun v => r ++ [v]).map _) = _
    rw [sumL_flat]
    refine sumL_congr fun r hr => ?_
    have hlr : Y.length = r.length := by rw [hlY, rowsN_len hr]
    rw [List.map_map]
    have e : ∀ v, numB (underN b (Y ++ [x]) (r ++ [v]) && P (topsN b (Y ++ [x]) (r ++ [v]))) = numB (decide (v ≤ b x) && if v = b x then (underN b Y r && P (topsN b Y r ++ [x])) else (underN b Y r && P (topsN b Y r))) := fun v => by
      rw [under_snoc hlr, tops_snoc hlr]
      by_cases c : v = b x
      · rw [if_pos c, if_pos c, decide_eq_true (by omega), Bool.and_true, Bool.true_and]
      · rw [if_neg c, if_neg c, List.append_nil]
        cases decide (v ≤ b x) <;> cases underN b Y r <;> rfl
    rw [show (fun r2 => numB (underN b (Y ++ [x]) r2 && P (topsN b (Y ++ [x]) r2))) ∘ (fun v => r ++ [v]) = fun v => numB (decide (v ≤ b x) && if v = b x then (underN b Y r && P (topsN b Y r ++ [x])) else (underN b Y r && P (topsN b Y r))) from funext e]
    exact one_row hbx _ _
/-- the lines of a class: each span hit -/
theorem nb_cnt {sp : List (Nat × Nat)} {w : Int} (h60 : ∀ p ∈ sp, p.2 < 60) : ∀ (L : List Nat) (a : Int), L.Pairwise (· < ·) → (∀ x ∈ L, a < (x : Int)) → NB (fun _ => w) L (fun T => sp.all fun p => !decide (a < (p.1 : Int)) || T.any fun x => decide (p.1 ≤ x) && decide (x ≤ p.2)) = cnt sp w L a
  | [], a, _, _ => by
    show (if (sp.all fun p => !decide (a < (p.1 : Int)) || false) = true then (1 : Int) else 0) = if okX sp a 60 = true then 1 else 0
    have e : (sp.all fun p => !decide (a < (p.1 : Int)) || false) = okX sp a 60 := by
      unfold okX
      rw [Bool.eq_iff_iff, List.all_eq_true, List.all_eq_true]
      refine forall_congr' fun p => forall_congr' fun hp => ?_
      have := h60 p hp
      rw [Bool.or_false, decide_eq_true (show (p.2 : Int) < 60 by omega), Bool.and_true]
    rw [e]
  | x :: L, a, hr, ha => by
    obtain ⟨r1, r2⟩ := List.pairwise_cons.mp hr
    have hx := ha x List.mem_cons_self
    show NB (fun _ => w) L (fun T => sp.all fun p => !decide (a < (p.1 : Int)) || (x :: T).any fun y => decide (p.1 ≤ y) && decide (y ≤ p.2)) + w * NB (fun _ => w) L _ = (if okX sp a x = true then cnt sp w L x else 0) + w * cnt sp w L a
    rw [nb_cnt h60 L a r2 fun y hy => ha y (List.mem_cons_of_mem _ hy)]
    congr 1
    rw [← nb_cnt h60 L x r2 fun y hy => by have := r1 y hy; omega]
    cases ho : okX sp a x with
    | true =>
      rw [if_pos rfl]
      refine nb_congr fun T hT => ?_
      rw [Bool.eq_iff_iff, List.all_eq_true, List.all_eq_true]
      refine forall_congr' fun p => forall_congr' fun hp => ?_
      have ok := List.all_eq_true.mp ho p hp
      rw [List.any_cons]
      by_cases c1 : a < (p.1 : Int)
      · by_cases c2 : (x : Int) < (p.1 : Int)
        · rw [decide_eq_true c1, decide_eq_true c2, decide_eq_false (p := p.1 ≤ x) (by omega)]
          simp
        · rw [decide_eq_true c1, decide_eq_false (p := (x : Int) < (p.1 : Int)) c2]
          have c3 : x ≤ p.2 := by
            rw [decide_eq_true c1, Bool.true_and] at ok
            have := of_decide_eq_false (by simpa using ok : decide ((p.2 : Int) < (x : Nat)) = false)
            omega
          rw [decide_eq_true (show p.1 ≤ x by omega), decide_eq_true c3]
          simp
      · rw [decide_eq_false c1, decide_eq_false (p := (x : Int) < (p.1 : Int)) (by omega)]
        simp
    | false =>
      rw [if_neg Bool.false_ne_true]
      obtain ⟨p, hp, hb⟩ := List.all_eq_false.mp ho
      have hb2 : a < (p.1 : Int) ∧ (p.2 : Int) < (x : Nat) := by
        by_cases c1 : a < (p.1 : Int)
        · by_cases c2 : (p.2 : Int) < (x : Nat)
          · exact ⟨c1, c2⟩
          · rw [decide_eq_false c2, Bool.and_false] at hb
            exact absurd rfl hb
        · rw [decide_eq_false c1] at hb
          exact absurd rfl hb
      have z : ∀ X : List Nat, NB (fun _ => w) X (fun _ => false) = 0 := fun X => by
        induction X with
        | nil => rfl
        | cons x X ih =>
          show NB (fun _ => w) X (fun _ => false) + w * NB (fun _ => w) X (fun _ => false) = 0
          rw [ih, Int.mul_zero]
          rfl
      rw [← z L]
      refine nb_congr fun T hT => List.all_eq_false.mpr ⟨p, hp, ?_⟩
      rw [decide_eq_true hb2.1, List.any_eq_false.mpr fun y hy => ?_]
      · decide
      · have : x ≤ y := by
          rcases List.mem_cons.mp hy with e | m
          · omega
          · exact Nat.le_of_lt (r1 y (hT.subset m))
        rw [decide_eq_false (p := y ≤ p.2) (by omega), Bool.and_false]
        exact Bool.false_ne_true
def bN (ss : List Sg) (x : Nat × Nat) : Nat := ((bestF ss x.1 x.2).getD 0).toNat
def hitP (ss : List Sg) (T : List (Nat × Nat)) : Bool := ss.all fun s => T.any fun x => hasB s x.1 x.2 && (bestF ss x.1 x.2 == some s.w)
theorem inRow_mem {s : Sg} {X : List (Nat × Nat)} {r : List Nat} {v : Nat} : v ∈ inRow s X r ↔ ∃ x, (x, v) ∈ X.zip r ∧ hasB s x.1 x.2 = true := by
  unfold inRow
  rw [List.mem_map]
  constructor
  · rintro ⟨⟨x, v2⟩, h, rfl⟩
    obtain ⟨h1, h2⟩ := List.mem_filter.mp h
    exact ⟨x, h1, h2⟩
  · rintro ⟨x, h1, h2⟩
    exact ⟨(x, v), List.mem_filter.mpr ⟨h1, h2⟩, rfl⟩
theorem tops_mem {ss : List Sg} {X : List (Nat × Nat)} {r : List Nat} {x : Nat × Nat} : x ∈ topsN (bN ss) X r ↔ (x, bN ss x) ∈ X.zip r := by
  unfold topsN
  rw [List.mem_map]
  constructor
  · rintro ⟨⟨y, v⟩, h, rfl⟩
    obtain ⟨h1, h2⟩ := List.mem_filter.mp h
    have h2 : v = bN ss y := of_decide_eq_true h2
    rw [← h2]
    exact h1
  · intro h
    exact ⟨(x, bN ss x), List.mem_filter.mpr ⟨h, decide_eq_true rfl⟩, rfl⟩
theorem spot_best {X : List (Nat × Nat)} {ss : List Sg} (sp : Spots X ss) {x : Nat × Nat} (h : x ∈ X) : ∃ s ∈ ss, hasB s x.1 x.2 = true ∧ bestF ss x.1 x.2 = some s.w := by
  obtain ⟨s, hs, hb⟩ := (sp.mem x).mp h
  obtain ⟨u, hu⟩ := best_some hs hb
  obtain ⟨⟨s2, h1, h2, h3⟩, _⟩ := best_is.mp hu
  exact ⟨s2, h1, h2, by rw [hu, h3]⟩
theorem bN_of {ss : List Sg} {x : Nat × Nat} {u : Int} (h : bestF ss x.1 x.2 = some u) : bN ss x = u.toNat := by
  unfold bN
  rw [h]
  rfl
theorem fine_iff {X : List (Nat × Nat)} {ss : List Sg} (sp : Spots X ss) (w0 : ∀ s ∈ ss, 0 ≤ s.w) (r : List Nat) : fineB X ss r = (underN (bN ss) X r && hitP ss (topsN (bN ss) X r)) := by
  rw [Bool.eq_iff_iff, Bool.and_eq_true]
  have zx : ∀ {p : (Nat × Nat) × Nat}, p ∈ X.zip r → p.1 ∈ X := fun h => (List.of_mem_zip h).1
  constructor
  · intro h
    have fine : ∀ s ∈ ss, (∃ v ∈ inRow s X r, (v : Int) = s.w) ∧ ∀ v ∈ inRow s X r, (v : Int) ≤ s.w := fun s hs => by
      obtain ⟨h1, h2⟩ := Bool.and_eq_true_iff.mp (List.all_eq_true.mp h s hs)
      obtain ⟨v, hv, he⟩ := List.any_eq_true.mp h1
      exact ⟨⟨v, hv, of_decide_eq_true he⟩, fun v hv => of_decide_eq_true (List.all_eq_true.mp h2 v hv)⟩
    have under : ∀ p ∈ X.zip r, p.2 ≤ bN ss p.1 := fun p hp => by
      obtain ⟨s, hs, hb, he⟩ := spot_best sp (zx hp)
      have := (fine s hs).2 p.2 (inRow_mem.mpr ⟨p.1, hp, hb⟩)
      rw [bN_of he]
      have := w0 s hs
      omega
    refine ⟨List.all_eq_true.mpr fun p hp => decide_eq_true (under p hp), List.all_eq_true.mpr fun s hs => ?_⟩
    obtain ⟨v, hv, he⟩ := (fine s hs).1
    obtain ⟨x, hx, hb⟩ := inRow_mem.mp hv
    obtain ⟨s2, hs2, hb2, he2⟩ := spot_best sp (zx hx)
    have h1 := best_le he2 hs hb
    have h2 : v ≤ bN ss x := under (x, v) hx
    rw [bN_of he2] at h2
    have h3 := w0 s2 hs2
    have e : s2.w = s.w := by omega
    refine List.any_eq_true.mpr ⟨x, tops_mem.mpr ?_, ?_⟩
    · have : bN ss x = v := by rw [bN_of he2]; omega
      rw [this]
      exact hx
    · rw [hb, he2, e]
      simp
  · rintro ⟨hu, hh⟩
    have under : ∀ p ∈ X.zip r, p.2 ≤ bN ss p.1 := fun p hp => of_decide_eq_true (List.all_eq_true.mp hu p hp)
    refine List.all_eq_true.mpr fun s hs => Bool.and_eq_true_iff.mpr ⟨?_, List.all_eq_true.mpr fun v hv => decide_eq_true ?_⟩
    · obtain ⟨x, hx, hc⟩ := List.any_eq_true.mp (List.all_eq_true.mp hh s hs)
      obtain ⟨h1, h2⟩ := Bool.and_eq_true_iff.mp hc
      have h2 := eq_of_beq h2
      refine List.any_eq_true.mpr ⟨bN ss x, inRow_mem.mpr ⟨x, tops_mem.mp hx, h1⟩, decide_eq_true ?_⟩
      rw [bN_of h2]
      exact Int.toNat_of_nonneg (w0 s hs)
    · obtain ⟨x, hx, hb⟩ := inRow_mem.mp hv
      obtain ⟨s2, hs2, hb2, he2⟩ := spot_best sp (zx hx)
      have h1 := best_le he2 hs hb
      have h2 : v ≤ bN ss x := under (x, v) hx
      rw [bN_of he2] at h2
      have := w0 s2 hs2
      omega
theorem most_le {ss : List Sg} {s : Sg} (h : s ∈ ss) : s.w.toNat ≤ mostW ss := by
  unfold mostW
  have gen : ∀ (ns : List Nat) (a : Nat), a ≤ ns.foldl max a ∧ ∀ n ∈ ns, n ≤ ns.foldl max a := by
    intro ns
    induction ns with
    | nil => intro a; exact ⟨Nat.le_refl _, fun n hn => nomatch hn⟩
    | cons m ns ih =>
      intro a
      obtain ⟨h1, h2⟩ := ih (max a m)
      refine ⟨Nat.le_trans (Nat.le_max_left _ _) h1, fun n hn => ?_⟩
      rcases List.mem_cons.mp hn with e | hn
      · rw [e]; exact Nat.le_trans (Nat.le_max_right _ _) h1
      · exact h2 n hn
  exact (gen _ 0).2 _ (List.mem_map.mpr ⟨s, h, rfl⟩)
theorem bN_le {X : List (Nat × Nat)} {ss : List Sg} (sp : Spots X ss) {x : Nat × Nat} (h : x ∈ X) : bN ss x ≤ mostW ss := by
  obtain ⟨s, hs, _, he⟩ := spot_best sp h
  rw [bN_of he]
  exact most_le hs
theorem every_len {X : List (Nat × Nat)} {ss : List Sg} (sp : Spots X ss) (w0 : ∀ s ∈ ss, 0 ≤ s.w) : ((everyF X ss).length : Int) = NB (fun x => (bN ss x : Int)) X (hitP ss) := by
  unfold everyF
  rw [count_sum, ← rows_count X.length X (hitP ss) rfl fun x hx => bN_le sp hx]
  exact sumL_congr fun r _ => by rw [fine_iff sp w0]
theorem rowsN_mem {m : Nat} : ∀ {n : Nat} {r : List Nat}, r ∈ rowsN m n ↔ r.length = n ∧ ∀ v ∈ r, v ≤ m
  | 0, r => by
    constructor
    · intro h
      rw [List.mem_singleton.mp h]
      exact ⟨rfl, fun v hv => nomatch hv⟩
    · rintro ⟨h, _⟩
      rw [List.length_eq_zero_iff.mp h]
      exact List.mem_singleton.mpr rfl
  | n + 1, r => by
    constructor
    · intro h
      obtain ⟨r2, h2, h3⟩ := List.mem_flatMap.mp h
      obtain ⟨v, hv, rfl⟩ := List.mem_map.mp h3
      obtain ⟨h4, h5⟩ := rowsN_mem.mp h2
      refine ⟨by rw [List.length_append, h4]; rfl, fun u hu => ?_⟩
      rcases List.mem_append.mp hu with hu | hu
      · exact h5 u hu
      · rw [List.mem_singleton.mp hu]
        have := List.mem_range.mp hv
        omega
    · rintro ⟨h1, h2⟩
      obtain ⟨r2, v, rfl⟩ : ∃ r2 v, r = r2 ++ [v] := ⟨r.dropLast, r.getLast (by intro z; rw [z] at h1; cases h1), (List.dropLast_concat_getLast _).symm⟩
      rw [List.length_append] at h1
      refine List.mem_flatMap.mpr ⟨r2, rowsN_mem.mpr ⟨by simpa using h1, fun u hu => h2 u (List.mem_append.mpr (.inl hu))⟩, List.mem_map.mpr ⟨v, List.mem_range.mpr ?_, rfl⟩⟩
      have := h2 v (List.mem_append.mpr (.inr (List.mem_singleton.mpr rfl)))
      omega
/-- a row of values by cell -/
theorem zip_map {X : List (Nat × Nat)} {f : Nat × Nat → Nat} {x : Nat × Nat} {v : Nat} : (x, v) ∈ X.zip (X.map f) ↔ x ∈ X ∧ v = f x := by
  induction X with
  | nil => simp
  | cons y X ih =>
    rw [List.map_cons, List.zip_cons_cons, List.mem_cons, ih, List.mem_cons]
    constructor
    · rintro (h | ⟨h1, h2⟩)
      · injection h with h1 h2
        exact ⟨.inl h1, by rw [h2, h1]⟩
      · exact ⟨.inr h1, h2⟩
    · rintro ⟨h1 | h1, h2⟩
      · exact .inl (by rw [h1, h2, h1])
      · exact .inr ⟨h1, h2⟩
theorem row_fine {X : List (Nat × Nat)} {ss : List Sg} (sp : Spots X ss) (w0 : ∀ s ∈ ss, 0 ≤ s.w) {f : Nat × Nat → Nat} (hf : ∀ x ∈ X, f x ≤ bN ss x) (hh : ∀ s ∈ ss, ∃ x ∈ X, hasB s x.1 x.2 = true ∧ bestF ss x.1 x.2 = some s.w ∧ f x = bN ss x) : X.map f ∈ everyF X ss := by
  refine List.mem_filter.mpr ⟨rowsN_mem.mpr ⟨List.length_map _, fun v hv => ?_⟩, ?_⟩
  · obtain ⟨x, hx, rfl⟩ := List.mem_map.mp hv
    exact Nat.le_trans (hf x hx) (bN_le sp hx)
  · rw [fine_iff sp w0, Bool.and_eq_true]
    refine ⟨List.all_eq_true.mpr fun p hp => ?_, List.all_eq_true.mpr fun s hs => ?_⟩
    · obtain ⟨x, v⟩ := p
      obtain ⟨h1, h2⟩ := zip_map.mp hp
      rw [h2]
      exact decide_eq_true (hf x h1)
    · obtain ⟨x, hx, h1, h2, h3⟩ := hh s hs
      refine List.any_eq_true.mpr ⟨x, tops_mem.mpr (zip_map.mpr ⟨hx, h3.symm⟩), ?_⟩
      rw [h1, h2]
      simp
/-- no widths agree exactly if there is a conflict -/
theorem every_nil {X : List (Nat × Nat)} {ss : List Sg} (sp : Spots X ss) (w0 : ∀ s ∈ ss, 0 ≤ s.w) (fl : ∀ s ∈ ss, s.f ≤ s.l) : everyF X ss = [] ↔ conflD ss ≠ .non := by
  constructor
  · intro h hc
    have : X.map (bN ss) ∈ everyF X ss := row_fine sp w0 (fun x _ => Nat.le_refl _) fun s hs => by
      obtain ⟨j, h1, h2, h3⟩ := confl_no hc hs (fl s hs)
      have hb := hasB_iff.mpr ⟨rfl, h1, h2⟩
      exact ⟨(j, s.c), (sp.mem _).mpr ⟨s, hs, hb⟩, hb, h3, rfl⟩
    rw [h] at this
    cases this
  · intro h
    rw [List.eq_nil_iff_forall_not_mem]
    intro r hr
    have hf := (List.mem_filter.mp hr).2
    rw [fine_iff sp w0] at hf
    obtain ⟨_, hh⟩ := Bool.and_eq_true_iff.mp hf
    refine h (confl_yes fun s hs => ?_)
    obtain ⟨x, _, hc⟩ := List.any_eq_true.mp (List.all_eq_true.mp hh s hs)
    obtain ⟨h1, h2⟩ := Bool.and_eq_true_iff.mp hc
    obtain ⟨e1, e2, e3⟩ := hasB_iff.mp h1
    exact ⟨x.1, e2, e3, by rw [e1]; exact eq_of_beq h2⟩
theorem zip_at {X : List (Nat × Nat)} (nd : X.Nodup) {r : List Nat} {k : Nat} (hk : k < X.length) {v : Nat} (h : (X[k], v) ∈ X.zip r) : r[k]? = some v := by
  obtain ⟨i, hi, e⟩ := List.mem_iff_getElem.mp h
  rw [List.getElem_zip] at e
  injection e with e1 e2
  have hi2 : i < X.length := by rw [List.length_zip] at hi; omega
  have hi3 : i < r.length := by rw [List.length_zip] at hi; omega
  have : i = k := (List.getElem_inj nd).mp e1
  subst this
  rw [List.getElem?_eq_getElem hi3, e2]
theorem at_zip {X : List (Nat × Nat)} {r : List Nat} {k : Nat} (hk : k < X.length) {v : Nat} (h : r[k]? = some v) : (X[k], v) ∈ X.zip r := by
  obtain ⟨hr, e⟩ := List.getElem?_eq_some_iff.mp h
  refine List.mem_iff_getElem.mpr ⟨k, by rw [List.length_zip]; omega, ?_⟩
  rw [List.getElem_zip, e]
/-- the values that a cell has -/
theorem every_vals {X : List (Nat × Nat)} {ss : List Sg} (sp : Spots X ss) (w0 : ∀ s ∈ ss, 0 ≤ s.w) (fl : ∀ s ∈ ss, s.f ≤ s.l) (hcf : conflD ss = .non) {k : Nat} (hk : k < X.length) {b : Int} (hb : bestF ss X[k].1 X[k].2 = some b) (v : Nat) :
    (∃ r ∈ everyF X ss, r[k]? = some v) ↔ (Sole ss X[k].2 X[k].1 b → (v : Int) = b) ∧ (v : Int) ≤ b := by
  have hx := List.getElem_mem hk
  obtain ⟨s0, hs0, hb0, he0⟩ := spot_best sp hx
  have eb : s0.w = b := by
    rw [hb] at he0
    exact (Option.some.inj he0).symm
  have bn : bN ss X[k] = b.toNat := bN_of hb
  have b0 : 0 ≤ b := eb ▸ w0 s0 hs0
  constructor
  · rintro ⟨r, hr, hv⟩
    have hf := (List.mem_filter.mp hr).2
    rw [fine_iff sp w0] at hf
    obtain ⟨hu, hh⟩ := Bool.and_eq_true_iff.mp hf
    refine ⟨fun ⟨s, hs, h1, h2, h3⟩ => ?_, ?_⟩
    · obtain ⟨y, hy, hc⟩ := List.any_eq_true.mp (List.all_eq_true.mp hh s hs)
      obtain ⟨k1, k2⟩ := Bool.and_eq_true_iff.mp hc
      obtain ⟨e1, e2, e3⟩ := hasB_iff.mp k1
      obtain ⟨g1, _, _⟩ := hasB_iff.mp h1
      have k2 := eq_of_beq k2
      have ey : y = X[k] := by
        refine Prod.ext (h3 y.1 e2 e3 ?_) (by omega)
        rw [show X[k].2 = y.2 by omega, k2, h2]
      have hz := tops_mem.mp hy
      rw [ey] at hz
      have := zip_at sp.nd hk hz
      rw [hv] at this
      have := Option.some.inj this
      omega
    · have := of_decide_eq_true (List.all_eq_true.mp hu _ (at_zip hk hv))
      have : v ≤ bN ss X[k] := this
      omega
  · rintro ⟨h1, h2⟩
    refine ⟨X.map fun y => if y = X[k] then v else bN ss y, row_fine sp w0 (fun y _ => ?_) fun s hs => ?_, ?_⟩
    · show (if y = X[k] then v else bN ss y) ≤ bN ss y
      by_cases c : y = X[k]
      · rw [if_pos c, c]; omega
      · rw [if_neg c]; exact Nat.le_refl _
    · obtain ⟨j, k1, k2, k3⟩ := confl_no hcf hs (fl s hs)
      have use : ∀ j, s.f ≤ j → j ≤ s.l → bestF ss j s.c = some s.w → ((j, s.c) ≠ X[k] ∨ (v : Int) = b) → ∃ x ∈ X, hasB s x.1 x.2 = true ∧ bestF ss x.1 x.2 = some s.w ∧ (if x = X[k] then v else bN ss x) = bN ss x := fun j k1 k2 k3 hne => by
        have hbj := hasB_iff.mpr ⟨rfl, k1, k2⟩
        refine ⟨(j, s.c), (sp.mem _).mpr ⟨s, hs, hbj⟩, hbj, k3, ?_⟩
        by_cases c : (j, s.c) = X[k]
        · rw [if_pos c, c]
          rcases hne with z | z
          · exact absurd c z
          · omega
        · rw [if_neg c]
      by_cases c : (j, s.c) = X[k]
      · by_cases hv : (v : Int) = b
        · exact use j k1 k2 k3 (.inr hv)
        · have ns : ¬ Sole ss X[k].2 X[k].1 b := fun z => hv (h1 z)
          have ec : s.c = X[k].2 := by rw [← c]
          have ej : j = X[k].1 := by rw [← c]
          have ew : s.w = b := by
            rw [ec, ej, hb] at k3
            exact (Option.some.inj k3).symm
          obtain ⟨j2, m1, m2, m3, m4⟩ : ∃ j2, s.f ≤ j2 ∧ j2 ≤ s.l ∧ bestF ss j2 X[k].2 = some b ∧ j2 ≠ X[k].1 := by
            refine Classical.byContradiction fun hno => ns ⟨s, hs, hasB_iff.mpr ⟨ec, by omega, by omega⟩, ew, fun j2 m1 m2 m3 => Classical.byContradiction fun m4 => hno ⟨j2, m1, m2, m3, m4⟩⟩
          exact use j2 m1 m2 (by rw [ec, ew]; exact m3) (.inl fun z => m4 (by rw [← z]))
      · exact use j k1 k2 k3 (.inl c)
    · rw [List.getElem?_map, List.getElem?_eq_getElem hk, Option.map_some, if_pos rfl]
def inQ (ss : List Sg) (q : Nat × Int) (x : Nat × Nat) : Bool := decide (x.2 = q.1) && (bestF ss x.1 x.2 == some q.2)
def hit1 (ss : List Sg) (q : Nat × Int) (T : List (Nat × Nat)) : Bool := (spansL ss q.1 q.2).all fun p => T.any fun x => inQ ss q x && (decide (p.1 ≤ x.1) && decide (x.1 ≤ p.2))
def hitQ (ss : List Sg) (Q : List (Nat × Int)) (T : List (Nat × Nat)) : Bool := Q.all fun q => hit1 ss q T
theorem inQ_iff {ss : List Sg} {q : Nat × Int} {x : Nat × Nat} : inQ ss q x = true ↔ x.2 = q.1 ∧ bestF ss x.1 x.2 = some q.2 := by
  unfold inQ
  rw [Bool.and_eq_true, decide_eq_true_eq]
  exact ⟨fun h => ⟨h.1, eq_of_beq h.2⟩, fun h => ⟨h.1, by rw [h.2]; simp⟩⟩
theorem hit_all {ss : List Sg} {Q : List (Nat × Int)} (hQ : ∀ s ∈ ss, (s.c, s.w) ∈ Q) (T : List (Nat × Nat)) : hitP ss T = hitQ ss Q T := by
  rw [Bool.eq_iff_iff]
  constructor
  · intro h
    refine List.all_eq_true.mpr fun q _ => List.all_eq_true.mpr fun p hp => ?_
    obtain ⟨s, hs, e1, e2, rfl⟩ := spans_mem.mp hp
    obtain ⟨x, hx, hc⟩ := List.any_eq_true.mp (List.all_eq_true.mp h s hs)
    obtain ⟨h1, h2⟩ := Bool.and_eq_true_iff.mp hc
    obtain ⟨g1, g2, g3⟩ := hasB_iff.mp h1
    refine List.any_eq_true.mpr ⟨x, hx, ?_⟩
    rw [inQ_iff.mpr ⟨by rw [← g1, e1], by rw [eq_of_beq h2, e2]⟩, decide_eq_true g2, decide_eq_true g3]
    rfl
  · intro h
    refine List.all_eq_true.mpr fun s hs => ?_
    have := List.all_eq_true.mp (List.all_eq_true.mp h _ (hQ s hs)) (s.f, s.l) (spans_mem.mpr ⟨s, hs, rfl, rfl, rfl⟩)
    obtain ⟨x, hx, hc⟩ := List.any_eq_true.mp this
    obtain ⟨h1, h2⟩ := Bool.and_eq_true_iff.mp hc
    obtain ⟨h3, h4⟩ := Bool.and_eq_true_iff.mp h2
    obtain ⟨g1, g2⟩ := inQ_iff.mp h1
    refine List.any_eq_true.mpr ⟨x, hx, ?_⟩
    rw [hasB_iff.mpr ⟨g1.symm, of_decide_eq_true h3, of_decide_eq_true h4⟩, g2]
    simp
theorem hitQ_memb (ss : List Sg) (Q : List (Nat × Int)) : Memb (hitQ ss Q) := fun T T' e => by
  unfold hitQ hit1
  congr 1
  funext q
  congr 1
  funext p
  rw [Bool.eq_iff_iff, List.any_eq_true, List.any_eq_true]
  exact ⟨fun ⟨x, h1, h2⟩ => ⟨x, (e x).mp h1, h2⟩, fun ⟨x, h1, h2⟩ => ⟨x, (e x).mpr h1, h2⟩⟩
theorem hit1_memb (ss : List Sg) (q : Nat × Int) : Memb (hit1 ss q) := fun T T' e => by
  have := hitQ_memb ss [q] T T' e
  unfold hitQ at this
  simpa using this
theorem any_keep {α : Type} {f : α → Bool} {T1 T2 : List α} (h : ∀ x ∈ T2, f x = false) : (T1 ++ T2).any f = T1.any f := by
  have e : T2.any f = false := List.any_eq_false.mpr fun x hx => by rw [h x hx]; exact Bool.false_ne_true
  rw [List.any_append, e, Bool.or_false]
theorem any_keep2 {α : Type} {f : α → Bool} {T1 T2 : List α} (h : ∀ x ∈ T1, f x = false) : (T1 ++ T2).any f = T2.any f := by
  have e : T1.any f = false := List.any_eq_false.mpr fun x hx => by rw [h x hx]; exact Bool.false_ne_true
  rw [List.any_append, e, Bool.false_or]
theorem nb_map {α β : Type} {b : β → Int} (g : α → β) : ∀ (L : List α) (P : List β → Bool), NB b (L.map g) P = NB (fun x => b (g x)) L fun T => P (T.map g)
  | [], P => rfl
  | x :: L, P => by
    show NB b (L.map g) (fun T => P (g x :: T)) + b (g x) * NB b (L.map g) P = NB (fun x => b (g x)) L (fun T => P (g x :: T.map g)) + b (g x) * NB (fun x => b (g x)) L fun T => P (T.map g)
    rw [nb_map g L, nb_map g L]
theorem nb_bcongr {α : Type} {b b' : α → Int} : ∀ {L : List α} {P : List α → Bool}, (∀ x ∈ L, b x = b' x) → NB b L P = NB b' L P
  | [], P, _ => rfl
  | x :: L, P, h => by
    show NB b L (fun T => P (x :: T)) + b x * NB b L P = NB b' L (fun T => P (x :: T)) + b' x * NB b' L P
    rw [h x List.mem_cons_self, nb_bcongr fun y hy => h y (List.mem_cons_of_mem _ hy), nb_bcongr fun y hy => h y (List.mem_cons_of_mem _ hy)]
/-- one class -/
theorem nb_class {t : List Nat} {ss : List Sg} (oks : SgsOk t ss) (h60 : t.length ≤ 60) {q : Nat × Int} (hq : 0 ≤ q.2) {X1 : List (Nat × Nat)} (nd : X1.Nodup) (hm : ∀ x, x ∈ X1 ↔ x.1 ∈ linesF t ss q.1 q.2 ∧ x.2 = q.1) : NB (fun x => (bN ss x : Int)) X1 (hit1 ss q) = Kf t ss q.1 q.2 := by
  have lin : ∀ i, i ∈ linesF t ss q.1 q.2 → bestF ss i q.1 = some q.2 := fun i hi => eq_of_beq (Bool.and_eq_true_iff.mp (List.mem_filter.mp hi).2).2
  have pm : X1.Perm ((linesF t ss q.1 q.2).map fun i => (i, q.1)) := by
    refine (List.perm_ext_iff_of_nodup nd ?_).mpr fun x => ?_
    · unfold List.Nodup
      rw [List.pairwise_map]
      refine (lines_rise t ss q.1 q.2).imp fun {a b} h z => ?_
      injection z with z
      omega
    · rw [hm, List.mem_map]
      constructor
      · rintro ⟨h1, h2⟩
        exact ⟨x.1, h1, Prod.ext rfl h2.symm⟩
      · rintro ⟨i, hi, rfl⟩
        exact ⟨hi, rfl⟩
  rw [nb_perm pm (hit1_memb ss q), nb_map]
  have e1 : NB (fun i => (bN ss (i, q.1) : Int)) (linesF t ss q.1 q.2) (fun T => hit1 ss q (T.map fun i => (i, q.1))) = NB (fun _ => q.2) (linesF t ss q.1 q.2) (fun T => hit1 ss q (T.map fun i => (i, q.1))) := nb_bcongr fun i hi => by
    rw [bN_of (x := (i, q.1)) (lin i hi)]
    exact Int.toNat_of_nonneg hq
  rw [e1]
  unfold Kf
  rw [← nb_cnt (fun p hp => by
    obtain ⟨s, hs, _, _, rfl⟩ := spans_mem.mp hp
    have := (oks.at_ s hs).l
    show s.l < 60
    omega) _ (-1) (lines_rise t ss q.1 q.2) fun x _ => by omega]
  refine nb_congr fun T hT => ?_
  unfold hit1
  congr 1
  funext p
  rw [decide_eq_true (show (-1 : Int) < (p.1 : Int) by omega), List.any_map, Bool.not_true, Bool.false_or, Bool.eq_iff_iff, List.any_eq_true, List.any_eq_true]
  refine exists_congr fun i => and_congr_right fun hi => ?_
  show (inQ ss q (i, q.1) && (decide (p.1 ≤ i) && decide (i ≤ p.2))) = true ↔ _
  rw [inQ_iff.mpr ⟨rfl, lin i (hT.subset hi)⟩, Bool.true_and]
theorem nb_classes {t : List Nat} {ss : List Sg} (oks : SgsOk t ss) (h60 : t.length ≤ 60) : ∀ (Q : List (Nat × Int)) (X : List (Nat × Nat)), Q.Nodup → (∀ q ∈ Q, 0 ≤ q.2) → X.Nodup → (∀ x ∈ X, ∃ q ∈ Q, inQ ss q x = true) → (∀ q ∈ Q, ∀ x, (x ∈ X ∧ inQ ss q x = true) ↔ x.1 ∈ linesF t ss q.1 q.2 ∧ x.2 = q.1) → NB (fun x => (bN ss x : Int)) X (hitQ ss Q) = KQ t ss Q
  | [], X, _, _, _, h, _ => by
    have : X = [] := List.eq_nil_iff_forall_not_mem.mpr fun x hx => by
      obtain ⟨q, hq, _⟩ := h x hx
      cases hq
    rw [this]
    rfl
  | q :: Q, X, nQ, q0, nX, h, hm => by
    obtain ⟨n1, n2⟩ := List.nodup_cons.mp nQ
    have pm := (List.filter_append_perm (inQ ss q) X).symm
    rw [nb_perm pm (hitQ_memb ss (q :: Q))]
    rw [nb_both (P1 := hit1 ss q) (P2 := hitQ ss Q) fun T1 T2 s1 s2 => ?_]
    · rw [nb_class oks h60 (q0 q List.mem_cons_self) (List.Nodup.sublist List.filter_sublist nX) fun x => by rw [List.mem_filter]; exact hm q List.mem_cons_self x]
      rw [nb_classes oks h60 Q _ n2 (fun r hr => q0 r (List.mem_cons_of_mem _ hr)) (List.Nodup.sublist List.filter_sublist nX) (fun x hx => ?_) fun r hr x => ?_]
      · rfl
      · obtain ⟨h1, h2⟩ := List.mem_filter.mp hx
        obtain ⟨r, hr, hc⟩ := h x h1
        rcases List.mem_cons.mp hr with e | m
        · rw [e] at hc
          rw [hc] at h2
          cases h2
        · exact ⟨r, m, hc⟩
      · rw [List.mem_filter, ← hm r (List.mem_cons_of_mem _ hr) x]
        refine ⟨fun z => ⟨z.1.1, z.2⟩, fun z => ⟨⟨z.1, ?_⟩, z.2⟩⟩
        cases hc : inQ ss q x with
        | false => rfl
        | true =>
          obtain ⟨a1, a2⟩ := inQ_iff.mp hc
          obtain ⟨b1, b2⟩ := inQ_iff.mp z.2
          rw [a2] at b2
          have : q = r := Prod.ext (a1.symm.trans b1) (Option.some.inj b2)
          exact absurd (this ▸ hr) n1
    · show (hit1 ss q (T1 ++ T2) && hitQ ss Q (T1 ++ T2)) = (hit1 ss q T1 && hitQ ss Q T2)
      have e1 : hit1 ss q (T1 ++ T2) = hit1 ss q T1 := by
        unfold hit1
        congr 1
        funext p
        refine any_keep fun x hx => ?_
        have := (List.mem_filter.mp (s2.subset hx)).2
        cases hc : inQ ss q x with
        | false => rfl
        | true => rw [hc] at this; cases this
      have e2 : hitQ ss Q (T1 ++ T2) = hitQ ss Q T2 := by
        unfold hitQ
        rw [Bool.eq_iff_iff, List.all_eq_true, List.all_eq_true]
        refine forall_congr' fun r => forall_congr' fun hr => ?_
        have : hit1 ss r (T1 ++ T2) = hit1 ss r T2 := by
          unfold hit1
          congr 1
          funext p
          refine any_keep2 fun x hx => ?_
          have hc := (List.mem_filter.mp (s1.subset hx)).2
          cases hd : inQ ss r x with
          | false => rfl
          | true =>
            obtain ⟨a1, a2⟩ := inQ_iff.mp hc
            obtain ⟨b1, b2⟩ := inQ_iff.mp hd
            rw [a2] at b2
            have : q = r := Prod.ext (a1.symm.trans b1) (Option.some.inj b2)
            exact absurd (this ▸ hr) n1
        rw [this]
      rw [e1, e2]
/-- as many rows as ways -/
theorem every_ways {t : List Nat} {ss : List Sg} {X : List (Nat × Nat)} (oks : SgsOk t ss) (h60 : t.length ≤ 60) (sp : Spots X ss) {Q : List (Nat × Int)} (hQ : Q.Nodup) (hm : ∀ q, q ∈ Q ↔ q ∈ ss.map fun s => (s.c, s.w)) : ((everyF X ss).length : Int) = KQ t ss Q := by
  have w0 : ∀ s ∈ ss, 0 ≤ s.w := fun s hs => (oks.at_ s hs).w0
  have inQs : ∀ s ∈ ss, (s.c, s.w) ∈ Q := fun s hs => (hm _).mpr (List.mem_map.mpr ⟨s, hs, rfl⟩)
  rw [every_len sp w0, nb_congr fun T _ => hit_all inQs T]
  refine nb_classes oks h60 Q X hQ (fun q hq => ?_) sp.nd (fun x hx => ?_) fun q hq x => ?_
  · obtain ⟨s, hs, rfl⟩ := List.mem_map.mp ((hm q).mp hq)
    exact w0 s hs
  · obtain ⟨s, hs, h1, h2⟩ := spot_best sp hx
    exact ⟨(s.c, s.w), inQs s hs, inQ_iff.mpr ⟨(hasB_iff.mp h1).1.symm, h2⟩⟩
  · constructor
    · rintro ⟨hx, hc⟩
      obtain ⟨e1, e2⟩ := inQ_iff.mp hc
      obtain ⟨s, hs, h1, _⟩ := spot_best sp hx
      obtain ⟨g1, g2, g3⟩ := hasB_iff.mp h1
      have so := oks.at_ s hs
      refine ⟨List.mem_filter.mpr ⟨List.mem_range.mpr (Nat.lt_of_le_of_lt g3 so.l), ?_⟩, e1⟩
      have := so.has x.1 g2 g3
      rw [g1, e1] at this
      rw [decide_eq_true this, ← e1, e2]
      simp
    · rintro ⟨h1, h2⟩
      obtain ⟨_, h3⟩ := Bool.and_eq_true_iff.mp (List.mem_filter.mp h1).2
      have h3 := eq_of_beq h3
      rw [← h2] at h3
      obtain ⟨⟨s, hs, hb, _⟩, _⟩ := best_is.mp h3
      exact ⟨(sp.mem x).mpr ⟨s, hs, hb⟩, inQ_iff.mpr ⟨h2, h3⟩⟩
end DL
namespace DL
open PySem PySem.Spec PyProof.Rows L2
local macro_rules | `(tactic| walk_at "dl") => `(tactic| ((try simp only [gstart, gwipe, List.set_set, List.map_cons, List.map_nil, List.length_cons, List.length_nil, rep_0, rep_s, List.cons_append, List.nil_append, List.set_cons_zero, List.set_cons_succ, Nat.reduceAdd, Nat.reduceSub, Nat.zero_add, Nat.add_zero]); (try simp only [↓dv0, ↓dv1, ↓dv2, ↓dv3, ↓dv4, ↓dv5, ↓dv6, ↓dv7, ↓dv8, ↓dv9, ↓dv10, ↓dv11, ↓dv12, ↓dv13, ↓dv14, ↓dv15, ↓dv16, ↓dv17, ↓dv18, ↓dv19, ↓dv20, ↓dv21, ↓dv22, ↓dv23, ↓dv24, ↓dv25, ↓dv26, ↓dv27, ↓dv28, ↓dv29, ↓dv30, ↓dv31, ↓dv32, ↓dv33, ↓dv34, ↓dv35, ↓dv36, ↓dv37, ↓dv38, ↓dv39, ↓nm0, ↓nm1, ↓nm2, ↓nm3, ↓nm4, ↓nm5, ↓nm6, ↓nm7, ↓nm8, ↓nm9, ↓nm10, ↓nm11, ↓nm12, ↓nm13, ↓nm14, ↓nm15, ↓nm16, ↓nm17, ↓nm18, ↓nm19, ↓nm20, ↓nm21, ↓nm22, ↓nm23, ↓nm24, ↓nm25, ↓nm26, ↓nm27, ↓nm28, ↓nm29, ↓nm30, ↓nm31, ↓nm32, ↓nm33, ↓nm34, ↓nm35, ↓nm36, ↓nm37, ↓nm38, ↓nm39, ↓sPar_n, ↓sPar3_n, ↓sAug_n, ↓reduceIte, List.set_set, ↓sNext_e, ↓sSeq_e, ↓sBrk_e, ↓sCnt_e, ↓sDrop_e, ↓sRet_e, ↓sRetN_e, ↓sIf_e, ↓sAsg_e, ↓sRaise_e, ↓nmG_e, ↓tupG_e, ↓gsNil_e, ↓gsCons_e, ↓subG_e, ↓dC_e, ↓dOp_e, ↓dUn_e, ↓dChain_e, ↓bOf_e, ↓bAnd_e, ↓bOr_e, ↓bNot_e, ↓bYes_e, ↓dAnd_e, ↓dOr_e, ↓dNot_e, ↓dIf_e, ↓lNil_e, ↓lCons_e, ↓dLst_e, ↓dDic0_e, ↓dDic1_e, ↓dLenSetG_e, dIsB_b, ↓dLstO_e, ↓dTup_e, ↓dCB_e, ↓dCall_e, ↓dCallK_e, ↓oNone_e, ↓oSome_e, ↓dSl_e, ↓dBM_e, ↓dBM0_e, ↓dFz_e, ↓dFz2_e, ↓d2_e, ↓dLone_e, ↓lStar_e, ↓dCallA_e, ↓dMakeA_e, ↓dMakeV_e, ↓dMethA_e, ↓dCMethA_e, ↓dPropA_e, ↓dFld_e, ↓sFldS_e, ↓dFzI_e, ↓fzID_o, ↓dM1_e, ↓dM0_e, ↓dRev_e, ↓mSplit_s, ↓mUpper_s, ↓exStr, ↓exZ, ↓cStrI_i, ↓cIntS_s, ↓iStrD_e, ↓dEqF_s, ↓dNeF_s, ↓dEqF_i, ↓dNeF_i, ↓dSign_s, ↓sRaiseI_e, ↓dXFld_e, ↓mPop_e, ↓dAddO_l, ↓dAddO_o, ↓dMk0_e, ↓sKeep_e, ↓sTryH_e, ↓dCVal_e, ↓dConI_e, ↓cLen_s, ↓dIx_s, ↓dSlS_s, ↓dAdd_s, ↓cTup_l, ↓pkP_e, ↓pkS_e, ↓lstG_e, ↓asI_i, ↓iSeq_e, ↓iTupD_e, ↓iRg1_e, ↓iRg2_e, ↓iZipD_e, iZrD_e, ↓iEnumD_e, ↓sFor_e, ↓dLc_e, ↓finF_e, ↓finO_e, ↓fzD_l, ↓fzD_i, ↓fzD_o, ↓fzD2_o, ↓dSetO_e, ↓mAppend_e, ↓mClear_e, ↓mReverse_e, List.map_cons, List.map_nil, List.length_cons, List.length_nil, rep_0, rep_s, List.cons_append, List.nil_append, List.getElem?_cons_zero, List.getElem?_cons_succ, List.set_cons_zero, List.set_cons_succ, Nat.reduceAdd, Nat.reduceSub, Nat.zero_add, Nat.add_zero, ↓exSS, ↓exB, ↓exI, ↓ex1, ↓ex2, ↓ex3, ↓exI1, ↓exI2, ↓exT, ↓exC, ↓exAs, ↓dAdd_i, ↓dAddI_i, ↓dSubI_i, ↓dLRg_e, ↓dIsiT_e, ↓dLenSet_e, ↓bChain3_e, ↓dLRg2_e, ↓iRg3_e, ↓dLc2_e, ↓dSlT_t, dAddT_t, ↓dNewK_e, ↓dDis1_e, ↓sDkp_e, ↓dDGet_e, ↓dDGet2_e, ↓dLVals_e, ↓kD_ex_i, ↓dSS_e, ↓dST_e, ↓dSI_e, ↓lsG_e, ↓dMulI_i, ↓dNew_e, ↓sDct_e, ↓dMulO_l, ↓dLRgO_e, ↓dAdd_l, ↓dSub_i, ↓dMul_i, ↓dMul_l, ↓dMod_i, ↓dDiv_i, ↓dPow_i, ↓dLt_i, ↓dLe_i, ↓dGt_i, ↓dGe_i, ↓uNeg_i, ↓cMax2_i, ↓cMin2_i, ↓cAbs_i, ↓cInt_i, ↓cInt_b, ↓cLen_l, ↓cLen_q, ↓cLen_t, ↓cList_l, ↓cList_q, ↓cList_t, ↓cListO_l, ↓cListO_t, ↓dIx_l, ↓dIx_q, ↓dIx_t, ↓dIx_o', ↓exS, ↓exL, at_1, at_2, at_3, at_4, ix30, ix31, ix32, ↓dSlL_l, ↓dSlL_q, ↓asQ_l, ↓asL_l, at_0, ↓isi_non_int, ↓isi_non_bool, ↓isi_non_str, ↓isi_non_list, ↓isi_non_tuple, ↓isi_non_dict, ↓isi_bl_int, ↓isi_bl_bool, ↓isi_bl_str, ↓isi_bl_list, ↓isi_bl_tuple, ↓isi_bl_dict, ↓isi_int_int, ↓isi_int_bool, ↓isi_int_str, ↓isi_int_list, ↓isi_int_tuple, ↓isi_int_dict, ↓isi_str_int, ↓isi_str_bool, ↓isi_str_str, ↓isi_str_list, ↓isi_str_tuple, ↓isi_str_dict, ↓isi_lst_int, ↓isi_lst_bool, ↓isi_lst_str, ↓isi_lst_list, ↓isi_lst_tuple, ↓isi_lst_dict, ↓isi_sq_int, ↓isi_sq_bool, ↓isi_sq_str, ↓isi_sq_list, ↓isi_sq_tuple, ↓isi_sq_dict, ↓isi_tup_int, ↓isi_tup_bool, ↓isi_tup_str, ↓isi_tup_list, ↓isi_tup_tuple, ↓isi_tup_dict, ↓isi_dic_int, ↓isi_dic_bool, ↓isi_dic_str, ↓isi_dic_list, ↓isi_dic_tuple, ↓isi_dic_dict, if_true, if_false, Bool.not_true, Bool.not_false, true_and, and_true, reduceCtorEq, Bool.true_eq_false, Bool.false_eq_true, ite_true, ite_false, ↓exAny, ↓isLst_l, Int.toNat_natCast, Int.reduceToNat, dVar_e, sPar_e, sPar3_e, sAug_e])))
local macro_rules | `(tactic| walk_at "dls") => `(tactic| ((try simp only [gstart, gwipe, List.set_set, List.map_cons, List.map_nil, List.length_cons, List.length_nil, rep_0, rep_s, List.cons_append, List.nil_append, List.set_cons_zero, List.set_cons_succ, Nat.reduceAdd, Nat.reduceSub, Nat.zero_add, Nat.add_zero]); (try simp only [*, ↓dv0, ↓dv1, ↓dv2, ↓dv3, ↓dv4, ↓dv5, ↓dv6, ↓dv7, ↓dv8, ↓dv9, ↓dv10, ↓dv11, ↓dv12, ↓dv13, ↓dv14, ↓dv15, ↓dv16, ↓dv17, ↓dv18, ↓dv19, ↓dv20, ↓dv21, ↓dv22, ↓dv23, ↓dv24, ↓dv25, ↓dv26, ↓dv27, ↓dv28, ↓dv29, ↓dv30, ↓dv31, ↓dv32, ↓dv33, ↓dv34, ↓dv35, ↓dv36, ↓dv37, ↓dv38, ↓dv39, ↓nm0, ↓nm1, ↓nm2, ↓nm3, ↓nm4, ↓nm5, ↓nm6, ↓nm7, ↓nm8, ↓nm9, ↓nm10, ↓nm11, ↓nm12, ↓nm13, ↓nm14, ↓nm15, ↓nm16, ↓nm17, ↓nm18, ↓nm19, ↓nm20, ↓nm21, ↓nm22, ↓nm23, ↓nm24, ↓nm25, ↓nm26, ↓nm27, ↓nm28, ↓nm29, ↓nm30, ↓nm31, ↓nm32, ↓nm33, ↓nm34, ↓nm35, ↓nm36, ↓nm37, ↓nm38, ↓nm39, ↓sPar_n, ↓sPar3_n, ↓sAug_n, ↓reduceIte, List.set_set, ↓sNext_e, ↓sSeq_e, ↓sBrk_e, ↓sCnt_e, ↓sDrop_e, ↓sRet_e, ↓sRetN_e, ↓sIf_e, ↓sAsg_e, ↓sRaise_e, ↓nmG_e, ↓tupG_e, ↓gsNil_e, ↓gsCons_e, ↓subG_e, ↓dC_e, ↓dOp_e, ↓dUn_e, ↓dChain_e, ↓bOf_e, ↓bAnd_e, ↓bOr_e, ↓bNot_e, ↓bYes_e, ↓dAnd_e, ↓dOr_e, ↓dNot_e, ↓dIf_e, ↓lNil_e, ↓lCons_e, ↓dLst_e, ↓dDic0_e, ↓dDic1_e, ↓dLenSetG_e, dIsB_b, ↓dLstO_e, ↓dTup_e, ↓dCB_e, ↓dCall_e, ↓dCallK_e, ↓oNone_e, ↓oSome_e, ↓dSl_e, ↓dBM_e, ↓dBM0_e, ↓dFz_e, ↓dFz2_e, ↓d2_e, ↓dLone_e, ↓lStar_e, ↓dCallA_e, ↓dMakeA_e, ↓dMakeV_e, ↓dMethA_e, ↓dCMethA_e, ↓dPropA_e, ↓dFld_e, ↓sFldS_e, ↓dFzI_e, ↓fzID_o, ↓dM1_e, ↓dM0_e, ↓dRev_e, ↓mSplit_s, ↓mUpper_s, ↓exStr, ↓exZ, ↓cStrI_i, ↓cIntS_s, ↓iStrD_e, ↓dEqF_s, ↓dNeF_s, ↓dEqF_i, ↓dNeF_i, ↓dSign_s, ↓sRaiseI_e, ↓dXFld_e, ↓mPop_e, ↓dAddO_l, ↓dAddO_o, ↓dMk0_e, ↓sKeep_e, ↓sTryH_e, ↓dCVal_e, ↓dConI_e, ↓cLen_s, ↓dIx_s, ↓dSlS_s, ↓dAdd_s, ↓cTup_l, ↓pkP_e, ↓pkS_e, ↓lstG_e, ↓asI_i, ↓iSeq_e, ↓iTupD_e, ↓iRg1_e, ↓iRg2_e, ↓iZipD_e, iZrD_e, ↓iEnumD_e, ↓sFor_e, ↓dLc_e, ↓finF_e, ↓finO_e, ↓fzD_l, ↓fzD_i, ↓fzD_o, ↓fzD2_o, ↓dSetO_e, ↓mAppend_e, ↓mClear_e, ↓mReverse_e, List.map_cons, List.map_nil, List.length_cons, List.length_nil, rep_0, rep_s, List.cons_append, List.nil_append, List.getElem?_cons_zero, List.getElem?_cons_succ, List.set_cons_zero, List.set_cons_succ, Nat.reduceAdd, Nat.reduceSub, Nat.zero_add, Nat.add_zero, ↓exSS, ↓exB, ↓exI, ↓ex1, ↓ex2, ↓ex3, ↓exI1, ↓exI2, ↓exT, ↓exC, ↓exAs, ↓dAdd_i, ↓dAddI_i, ↓dSubI_i, ↓dLRg_e, ↓dIsiT_e, ↓dLenSet_e, ↓bChain3_e, ↓dLRg2_e, ↓iRg3_e, ↓dLc2_e, ↓dSlT_t, dAddT_t, ↓dNewK_e, ↓dDis1_e, ↓sDkp_e, ↓dDGet_e, ↓dDGet2_e, ↓dLVals_e, ↓kD_ex_i, ↓dSS_e, ↓dST_e, ↓dSI_e, ↓lsG_e, ↓dMulI_i, ↓dNew_e, ↓sDct_e, ↓dMulO_l, ↓dLRgO_e, ↓dAdd_l, ↓dSub_i, ↓dMul_i, ↓dMul_l, ↓dMod_i, ↓dDiv_i, ↓dPow_i, ↓dLt_i, ↓dLe_i, ↓dGt_i, ↓dGe_i, ↓uNeg_i, ↓cMax2_i, ↓cMin2_i, ↓cAbs_i, ↓cInt_i, ↓cInt_b, ↓cLen_l, ↓cLen_q, ↓cLen_t, ↓cList_l, ↓cList_q, ↓cList_t, ↓cListO_l, ↓cListO_t, ↓dIx_l, ↓dIx_q, ↓dIx_t, ↓dIx_o', ↓exS, ↓exL, at_1, at_2, at_3, at_4, ix30, ix31, ix32, ↓dSlL_l, ↓dSlL_q, ↓asQ_l, ↓asL_l, at_0, ↓isi_non_int, ↓isi_non_bool, ↓isi_non_str, ↓isi_non_list, ↓isi_non_tuple, ↓isi_non_dict, ↓isi_bl_int, ↓isi_bl_bool, ↓isi_bl_str, ↓isi_bl_list, ↓isi_bl_tuple, ↓isi_bl_dict, ↓isi_int_int, ↓isi_int_bool, ↓isi_int_str, ↓isi_int_list, ↓isi_int_tuple, ↓isi_int_dict, ↓isi_str_int, ↓isi_str_bool, ↓isi_str_str, ↓isi_str_list, ↓isi_str_tuple, ↓isi_str_dict, ↓isi_lst_int, ↓isi_lst_bool, ↓isi_lst_str, ↓isi_lst_list, ↓isi_lst_tuple, ↓isi_lst_dict, ↓isi_sq_int, ↓isi_sq_bool, ↓isi_sq_str, ↓isi_sq_list, ↓isi_sq_tuple, ↓isi_sq_dict, ↓isi_tup_int, ↓isi_tup_bool, ↓isi_tup_str, ↓isi_tup_list, ↓isi_tup_tuple, ↓isi_tup_dict, ↓isi_dic_int, ↓isi_dic_bool, ↓isi_dic_str, ↓isi_dic_list, ↓isi_dic_tuple, ↓isi_dic_dict, if_true, if_false, Bool.not_true, Bool.not_false, true_and, and_true, reduceCtorEq, Bool.true_eq_false, Bool.false_eq_true, ite_true, ite_false, ↓exAny, ↓isLst_l, Int.toNat_natCast, Int.reduceToNat, dVar_e, sPar_e, sPar3_e, sAug_e])))
--MI
theorem all0 {α : Type} {P : α → Prop} : ∀ y ∈ ([] : List α), P y := fun _ h => nomatch h
theorem allc {α : Type} {P : α → Prop} {a : α} {l : List α} (h : P a) (h2 : ∀ y ∈ l, P y) : ∀ y ∈ a :: l, P y := fun y hy => by
  rcases List.mem_cons.mp hy with e | e
  · rw [e]; exact h
  · exact h2 y e
def pairP (x : Nat × Nat) : PyData := .tuple [.int (x.1 : Int), .int (x.2 : Int)]
theorem py_spots {S : Sto} (X : List (Nat × Nat)) : PyR S (.lst (X.map spD)) (.list (X.map pairP)) := .lst (pyra_map (g := pairP) (fun x => .tup (.cons (.int _) (.cons (.int _) .nil))) X)
theorem fit_pairP {x : Nat × Nat} (h : x.1 < 100 ∧ x.2 < 100) : Fit 1 (4 + 2 * (3 + 2)) (pairP x) := fit_tup (n := 0) (m := 3) (l := 2) (ps := [.int (x.1 : Int), .int (x.2 : Int)]) (allc (fit_int (k := 2) (by omega)) (allc (fit_int (k := 2) (by omega)) all0)) (Nat.le_refl 2)
theorem fit_spots {X : List (Nat × Nat)} (hX : ∀ x ∈ X, x.1 < 100 ∧ x.2 < 100) (hl : X.length ≤ 10) : Fit 2 (2 + 10 * ((4 + 2 * (3 + 2)) + 2)) (.list (X.map pairP)) := fit_list (fun p hp => by
  obtain ⟨x, hx, rfl⟩ := List.mem_map.mp hp
  exact fit_pairP (hX x hx)) (by rw [List.length_map]; exact hl)
theorem eqv_pairP (x y : Nat × Nat) : PyData.eqv (pairP x) (pairP y) = decide (x = y) := by
  have e : PyData.eqv (pairP x) (pairP y) = (decide ((x.1 : Int) = (y.1 : Int)) && decide ((x.2 : Int) = (y.2 : Int))) := by
    simp [pairP, PyData.eqv, PyData.eqvAll]
    rfl
  rw [e, Bool.eq_iff_iff, Bool.and_eq_true, decide_eq_true_eq, decide_eq_true_eq, decide_eq_true_eq]
  constructor
  · rintro ⟨h1, h2⟩
    exact Prod.ext (by omega) (by omega)
  · rintro rfl
    exact ⟨rfl, rfl⟩
theorem any_pairP {X : List (Nat × Nat)} {y : Nat × Nat} : (X.map pairP).any (fun z => PyData.eqv z (pairP y)) = decide (y ∈ X) := by
  rw [List.any_map, Bool.eq_iff_iff, List.any_eq_true, decide_eq_true_eq]
  constructor
  · rintro ⟨x, hx, h⟩
    have h : PyData.eqv (pairP x) (pairP y) = true := h
    rw [eqv_pairP, decide_eq_true_eq] at h
    exact h ▸ hx
  · intro h
    refine ⟨y, h, ?_⟩
    show PyData.eqv (pairP y) (pairP y) = true
    rw [eqv_pairP, decide_eq_true rfl]
theorem depth_pairP (x : Nat × Nat) : (pairP x).depth < 63 := by
  simp [pairP, PyData.depth, PyData.depthAll]
theorem notin_spots {S : Sto} {Φ : KD} {X : List (Nat × Nat)} {a c : Nat} (ha : a < 100) (hc : c < 100) (hX : ∀ x ∈ X, x.1 < 100 ∧ x.2 < 100) (hl : X.length ≤ 10) (h : Φ S (.bl (!decide ((a, c) ∈ X)))) : dNotInE (.tup [.int a, .int c]) (.lst (X.map spD)) S Φ :=
  ⟨pairP (a, c), X.map pairP, .tup (.cons (.int _) (.cons (.int _) .nil)), py_spots X, (fit_pairP ⟨ha, hc⟩).shaped, (fit_spots hX hl).shaped, depth_pairP _, by rw [any_pairP]; exact h⟩
theorem in_spots {S : Sto} {Φ : KD} {X : List (Nat × Nat)} {a c : Nat} (ha : a < 100) (hc : c < 100) (hX : ∀ x ∈ X, x.1 < 100 ∧ x.2 < 100) (hl : X.length ≤ 10) (h : Φ S (.bl (decide ((a, c) ∈ X)))) : dInE (.tup [.int a, .int c]) (.lst (X.map spD)) S Φ :=
  ⟨pairP (a, c), X.map pairP, .tup (.cons (.int _) (.cons (.int _) .nil)), py_spots X, (fit_pairP ⟨ha, hc⟩).shaped, (fit_spots hX hl).shaped, depth_pairP _, by rw [any_pairP]; exact h⟩
theorem p__law_told (C CN : Addr) : Rets (sp__law_told C) (T__law_told C CN) N__law_told := by
  rintro _ S Φ Ψ ⟨d, t, ss, k, rfl, e, ok, oks, hc, q⟩
  unfold T__law_told
  walk_at "dl"
  have why : (whyX CN ss).cls ∈ [CN] ∧ 2 < 3 ∧ ∃ D fs y, DL.D.exc (whyX CN ss).cls (whyX CN ss).fs = DL.D.exc D fs ∧ D ∈ [CN] ∧ List.lookup (Str.ofString "reason") fs = some y ∧ 2 ≤ sizeLine ∧ RetOk S Φ S (DL.D.tup [DL.D.str (Str.ofString "reason"), y]) :=
    ⟨List.mem_singleton.mpr rfl, by decide, CN, _, _, rfl, List.mem_singleton.mpr rfl, rfl, small (by decide), ret_now q⟩
  by_cases c0 : k = 0
  · rw [if_pos (by rw [c0]; rfl)]
    exact ⟨_, e, rfl, _, t, ss, rfl, e, ok, oks, fun z => absurd z hc, fun _ => why⟩
  · rw [if_neg (by rw [beq_iff_eq]; omega), dJ_e]
    walk_at "dl"
    by_cases c1 : k = 1
    · rw [if_pos (by rw [c1]; rfl)]
      exact ⟨_, e, rfl, _, t, ss, rfl, e, ok, oks, fun z => absurd z hc, fun _ => why⟩
    · rw [if_neg (by rw [beq_iff_eq]; omega)]
      exact ⟨_, e, rfl, _, t, ss, rfl, e, ok, oks, fun z => absurd z hc, fun _ => why⟩
theorem p__law_range (C CN C1 C2 : Addr) : Rets (sp__law_range C) (T__law_range C CN C1 C2) N__law_range := by
  rintro _ S Φ Ψ ⟨d, t, ss, i, c, rfl, e, ok, oks, hi, hc2, hc, q⟩
  unfold T__law_range
  walk_at "dl"
  have in1 : inB (i : Int) 0 ((t.length : Int) - 1) = true := inB_of (by omega) (by omega)
  have in2 : inB (c : Int) 0 (((t.getD (i : Int).toNat 0 : Nat) : Int) - 1) = true := by
    rw [Int.toNat_natCast]
    exact inB_of (by omega) (by omega)
  refine ⟨_, e, rfl, _, t, ss, i, c, rfl, e, ok, oks, ?_, ?_, ?_⟩
  · intro z
    rw [in1] at z
    cases z
  · intro _ z
    rw [in2] at z
    cases z
  intro _ _
  exact ⟨fun z => absurd z hc, fun _ => ⟨List.mem_singleton.mpr rfl, by decide, CN, _, _, rfl, List.mem_singleton.mpr rfl, rfl, small (by decide), ret_now q⟩⟩
theorem p__law_few : Rets sp__law_few T__law_few N__law_few := by
  rintro _ S Φ Ψ ⟨t, ss, rfl, ht, hl, hs, q⟩
  unfold T__law_few
  walk_at "dl"
  have get_last : ∀ (A : Sto) (c : Cell), (A ++ [c])[A.length]? = some c := fun A c => by
    rw [List.getElem?_append_right (Nat.le_refl _), Nat.sub_self]; rfl
  have set_last : ∀ (A : Sto) (c c' : Cell), (A ++ [c]).set A.length c' = A ++ [c'] := fun A c c' => by
    rw [List.set_append_right _ _ (Nat.le_refl _), Nat.sub_self]; rfl
  refine ⟨small (by decide), small (by decide), small (by decide), ?_⟩
  refine for_l (ds := ss.map sgD) (fun k Γ S' => ∃ (us : List Sg) (X : List (Nat × Nat)) (o4 o5 o6 : Option D), S' = S ++ [.lst (us.map sgD)] ∧ us.length ≤ k ∧ (∀ s ∈ us, s ∈ ss) ∧ Spots X us ∧ Γ = [some (sgsD ss), some (.int 5), some (.own S.length), some (.lst (X.map spD)), o4, o5, o6]) ⟨[], [], _, _, _, rfl, Nat.le_refl _, (fun s h => (nomatch h)), ⟨List.nodup_nil, by decide, fun x => ⟨fun h => (nomatch h), fun h => by obtain ⟨s, h, _⟩ := h; cases h⟩⟩, rfl⟩ (fun k Γ' S' hk hp => ?_) fun Γ' S' hp => ?_
  · obtain ⟨us, X, o4, o5, o6, rfl, hul, hus, sp, rfl⟩ := hp
    rw [List.length_map] at hk
    rw [List.getElem_map]
    have hm : ss[k] ∈ ss := List.getElem_mem hk
    have so := hs _ hm
    generalize ss[k] = s at hm so ⊢
    obtain ⟨sc, sf, sl, sw⟩ := s
    have b1 : sf ≤ sl := so.fl
    have b2 : sl < t.length := so.l
    have b3 : sc ≤ 10 := so.c
    dsimp only [sgD]
    walk_at "dl"
    have en : ((sl : Int) + 1 - (sf : Int)).toNat = sl + 1 - sf := by omega
    rw [en]
    have hX : ∀ x ∈ X, x.1 < 100 ∧ x.2 < 100 := fun x hx => by
      obtain ⟨s2, h2, hb⟩ := (sp.mem x).mp hx
      obtain ⟨g1, g2, g3⟩ := hasB_iff.mp hb
      have so2 := hs s2 (hus s2 h2)
      have := so2.l
      have := so2.c
      omega
    have hX10 : X.length ≤ 10 := Nat.le_trans sp.hi (by decide)
    obtain ⟨M, hM⟩ : ∃ M : List (Nat × Nat), M = ((List.range (sl + 1 - sf)).filter fun i => !decide ((sf + i, sc) ∈ X)).map fun i => (sf + i, sc) := ⟨_, rfl⟩
    refine ⟨⟨by omega, by omega, by omega, by omega⟩, ?_⟩
    refine lc_filtS (List.range (sl + 1 - sf)) (fun (i : Nat) => D.int ((sf : Int) + (i : Int))) (fun i => spD (sf + i, sc)) (fun i => !decide ((sf + i, sc) ∈ X)) rfl (small (by rw [List.length_range]; omega)) (fun i hi A N h1 h2 => ?_) ?_
    · have hi := List.mem_range.mp hi
      walk_at "dl"
      rw [show (sf : Int) + (i : Int) = ((sf + i : Nat) : Int) by omega]
      refine ⟨small (by decide), notin_spots (by omega) (by omega) hX hX10 ⟨_, rfl, ?_⟩⟩
      cases hd : (!decide ((sf + i, sc) ∈ X)) with
      | true => rw [if_pos rfl]; exact ⟨small (by decide), h1 hd⟩
      | false => rw [if_neg Bool.false_ne_true]; exact h2 hd
    · rw [finF_e]
      have eM : ((List.range (sl + 1 - sf)).filter fun i => !decide ((sf + i, sc) ∈ X)).map (fun i => spD (sf + i, sc)) = M.map spD := by rw [hM, List.map_map]; rfl
      rw [eM, sJ_e]
      walk_at "dl"
      have mM : ∀ x, x ∈ M ↔ (sf ≤ x.1 ∧ x.1 ≤ sl ∧ x.2 = sc) ∧ x ∉ X := fun x => by
        rw [hM, List.mem_map]
        constructor
        · rintro ⟨i, hi, rfl⟩
          obtain ⟨g1, g2⟩ := List.mem_filter.mp hi
          have := List.mem_range.mp g1
          refine ⟨⟨Nat.le_add_right _ _, by show sf + i ≤ sl; omega, rfl⟩, ?_⟩
          simpa using g2
        · rintro ⟨⟨g1, g2, g3⟩, g4⟩
          have e : (sf + (x.1 - sf), sc) = x := Prod.ext (by show sf + (x.1 - sf) = x.1; omega) g3.symm
          refine ⟨x.1 - sf, List.mem_filter.mpr ⟨List.mem_range.mpr (by omega), ?_⟩, e⟩
          rw [e]
          simpa using g4
      have nM : M.Nodup := by
        rw [hM]
        unfold List.Nodup
        rw [List.pairwise_map]
        refine (List.Pairwise.sublist List.filter_sublist List.pairwise_lt_range).imp fun {a b} h z => ?_
        injection z with z
        omega
      by_cases c1 : X.length + M.length ≤ 5
      · rw [if_pos (by rw [decide_eq_true_eq, List.length_map, List.length_map]; omega)]
        rw [← List.map_append]
        refine ⟨isLst_at (get_last _ _), _, get_last _ _, by rw [List.length_map]; have := small (n := 1000); omega, by rw [List.length_map, List.length_map]; exact small (by omega), us ++ [⟨sc, sf, sl, sw⟩], X ++ M, _, _, _, ?_, by rw [List.length_append]; exact Nat.succ_le_succ hul, fun s2 h2 => ?_, ⟨?_, by rw [List.length_append]; exact c1, fun x => ?_⟩, rfl⟩
        · rw [set_last, List.map_append]
          rfl
        · rcases List.mem_append.mp h2 with h2 | h2
          · exact hus s2 h2
          · rw [List.mem_singleton.mp h2]; exact hm
        · exact List.nodup_append.mpr ⟨sp.nd, nM, fun x hx y hy e => ((mM y).mp hy).2 (e ▸ hx)⟩
        · rw [List.mem_append, sp.mem, mM]
          constructor
          · rintro (⟨s2, h2, h3⟩ | ⟨⟨g1, g2, g3⟩, _⟩)
            · exact ⟨s2, List.mem_append.mpr (.inl h2), h3⟩
            · exact ⟨_, List.mem_append.mpr (.inr (List.mem_singleton.mpr rfl)), hasB_iff.mpr ⟨g3.symm, g1, g2⟩⟩
          · rintro ⟨s2, h2, h3⟩
            rcases List.mem_append.mp h2 with h2 | h2
            · exact .inl ⟨s2, h2, h3⟩
            · rw [List.mem_singleton.mp h2] at h3
              obtain ⟨g1, g2, g3⟩ := hasB_iff.mp h3
              by_cases hx : x ∈ X
              · exact .inl ((sp.mem x).mp hx)
              · exact .inr ⟨⟨g2, g3, g1.symm⟩, hx⟩
      · rw [if_neg (by rw [decide_eq_true_eq, List.length_map, List.length_map]; omega)]
        exact ⟨us, X, _, _, _, rfl, Nat.le_succ_of_le hul, hus, sp, rfl⟩
  · obtain ⟨us, X, o4, o5, o6, rfl, hul, hus, sp, rfl⟩ := hp
    rw [List.length_map] at hul
    walk_at "dl"
    refine ⟨_, get_last _ _, X.map fun x => ((x.1 : Int), (x.2 : Int)), by rw [List.map_map]; rfl, fun qs hp _ => ?_⟩
    have hq : ∀ q ∈ qs, ((q.1.toNat : Int), (q.2.toNat : Int)) = q := fun q hq => by
      obtain ⟨x, _, rfl⟩ := List.mem_map.mp (hp.mem_iff.mp hq)
      rfl
    have pm : (qs.map fun q => (q.1.toNat, q.2.toNat)).Perm X := by
      have := hp.map fun q : Int × Int => (q.1.toNat, q.2.toNat)
      rw [List.map_map] at this
      have e : X.map ((fun q : Int × Int => (q.1.toNat, q.2.toNat)) ∘ fun x => ((x.1 : Int), (x.2 : Int))) = X := by
        refine (List.map_congr_left fun x _ => ?_).trans (List.map_id X)
        show ((x.1 : Int).toNat, (x.2 : Int).toNat) = x
        rw [Int.toNat_natCast, Int.toNat_natCast]
      rwa [e] at this
    have eq : qs.map prD = (qs.map fun q => (q.1.toNat, q.2.toNat)).map spD := by
      rw [List.map_map]
      refine List.map_congr_left fun q h => ?_
      show prD q = .tup [.int (q.1.toNat : Nat), .int (q.2.toNat : Nat)]
      rw [← hq q h]
      rfl
    rw [eq, set_last]
    refine ⟨small (by decide), ret_cut ?_ (q us _ (by omega) hus ⟨pm.nodup_iff.mpr sp.nd, by rw [pm.length_eq]; exact sp.hi, fun x => by rw [pm.mem_iff]; exact sp.mem x⟩)⟩
    rw [D.low, lowA, lowA, lowA, D.low, D.low, lowA_map _ _ (fun _ => rfl), lowA_map _ _ (fun _ => rfl)]
    rfl
end DL
namespace DL
open PySem PySem.Spec PyProof.Rows L2
local macro_rules | `(tactic| walk_at "dl") => `(tactic| ((try simp only [gstart, gwipe, List.set_set, List.map_cons, List.map_nil, List.length_cons, List.length_nil, rep_0, rep_s, List.cons_append, List.nil_append, List.set_cons_zero, List.set_cons_succ, Nat.reduceAdd, Nat.reduceSub, Nat.zero_add, Nat.add_zero]); (try simp only [↓dv0, ↓dv1, ↓dv2, ↓dv3, ↓dv4, ↓dv5, ↓dv6, ↓dv7, ↓dv8, ↓dv9, ↓dv10, ↓dv11, ↓dv12, ↓dv13, ↓dv14, ↓dv15, ↓dv16, ↓dv17, ↓dv18, ↓dv19, ↓dv20, ↓dv21, ↓dv22, ↓dv23, ↓dv24, ↓dv25, ↓dv26, ↓dv27, ↓dv28, ↓dv29, ↓dv30, ↓dv31, ↓dv32, ↓dv33, ↓dv34, ↓dv35, ↓dv36, ↓dv37, ↓dv38, ↓dv39, ↓nm0, ↓nm1, ↓nm2, ↓nm3, ↓nm4, ↓nm5, ↓nm6, ↓nm7, ↓nm8, ↓nm9, ↓nm10, ↓nm11, ↓nm12, ↓nm13, ↓nm14, ↓nm15, ↓nm16, ↓nm17, ↓nm18, ↓nm19, ↓nm20, ↓nm21, ↓nm22, ↓nm23, ↓nm24, ↓nm25, ↓nm26, ↓nm27, ↓nm28, ↓nm29, ↓nm30, ↓nm31, ↓nm32, ↓nm33, ↓nm34, ↓nm35, ↓nm36, ↓nm37, ↓nm38, ↓nm39, ↓sPar_n, ↓sPar3_n, ↓sAug_n, ↓reduceIte, List.set_set, ↓sNext_e, ↓sSeq_e, ↓sBrk_e, ↓sCnt_e, ↓sDrop_e, ↓sRet_e, ↓sRetN_e, ↓sIf_e, ↓sAsg_e, ↓sRaise_e, ↓nmG_e, ↓tupG_e, ↓gsNil_e, ↓gsCons_e, ↓subG_e, ↓dC_e, ↓dOp_e, ↓dUn_e, ↓dChain_e, ↓bOf_e, ↓bAnd_e, ↓bOr_e, ↓bNot_e, ↓bYes_e, ↓dAnd_e, ↓dOr_e, ↓dNot_e, ↓dIf_e, ↓lNil_e, ↓lCons_e, ↓dLst_e, ↓dDic0_e, ↓dDic1_e, ↓dLenSetG_e, dIsB_b, ↓dLstO_e, ↓dTup_e, ↓dCB_e, ↓dCall_e, ↓dCallK_e, ↓oNone_e, ↓oSome_e, ↓dSl_e, ↓dBM_e, ↓dBM0_e, ↓dFz_e, ↓dFz2_e, ↓d2_e, ↓dLone_e, ↓lStar_e, ↓dCallA_e, ↓dMakeA_e, ↓dMakeV_e, ↓dMethA_e, ↓dCMethA_e, ↓dPropA_e, ↓dFld_e, ↓sFldS_e, ↓dFzI_e, ↓fzID_o, ↓dM1_e, ↓dM0_e, ↓dRev_e, ↓mSplit_s, ↓mUpper_s, ↓exStr, ↓exZ, ↓cStrI_i, ↓cIntS_s, ↓iStrD_e, ↓dEqF_s, ↓dNeF_s, ↓dEqF_i, ↓dNeF_i, ↓dSign_s, ↓sRaiseI_e, ↓dXFld_e, ↓mPop_e, ↓dAddO_l, ↓dAddO_o, ↓dMk0_e, ↓sKeep_e, ↓sTryH_e, ↓dCVal_e, ↓dConI_e, ↓cLen_s, ↓dIx_s, ↓dSlS_s, ↓dAdd_s, ↓cTup_l, ↓pkP_e, ↓pkS_e, ↓lstG_e, ↓asI_i, ↓iSeq_e, ↓iTupD_e, ↓iRg1_e, ↓iRg2_e, ↓iZipD_e, iZrD_e, ↓iEnumD_e, ↓sFor_e, ↓dLc_e, ↓finF_e, ↓finO_e, ↓fzD_l, ↓fzD_i, ↓fzD_o, ↓fzD2_o, ↓dSetO_e, ↓mAppend_e, ↓mClear_e, ↓mReverse_e, List.map_cons, List.map_nil, List.length_cons, List.length_nil, rep_0, rep_s, List.cons_append, List.nil_append, List.getElem?_cons_zero, List.getElem?_cons_succ, List.set_cons_zero, List.set_cons_succ, Nat.reduceAdd, Nat.reduceSub, Nat.zero_add, Nat.add_zero, ↓exSS, ↓exB, ↓exI, ↓ex1, ↓ex2, ↓ex3, ↓exI1, ↓exI2, ↓exT, ↓exC, ↓exAs, ↓dAdd_i, ↓dAddI_i, ↓dSubI_i, ↓dLRg_e, ↓dIsiT_e, ↓dLenSet_e, ↓bChain3_e, ↓dLRg2_e, ↓iRg3_e, ↓dLc2_e, ↓dSlT_t, dAddT_t, ↓dNewK_e, ↓dDis1_e, ↓sDkp_e, ↓dDGet_e, ↓dDGet2_e, ↓dLVals_e, ↓kD_ex_i, ↓dSS_e, ↓dST_e, ↓dSI_e, ↓lsG_e, ↓dMulI_i, ↓dNew_e, ↓sDct_e, ↓dMulO_l, ↓dLRgO_e, ↓dAdd_l, ↓dSub_i, ↓dMul_i, ↓dMul_l, ↓dMod_i, ↓dDiv_i, ↓dPow_i, ↓dLt_i, ↓dLe_i, ↓dGt_i, ↓dGe_i, ↓uNeg_i, ↓cMax2_i, ↓cMin2_i, ↓cAbs_i, ↓cInt_i, ↓cInt_b, ↓cLen_l, ↓cLen_q, ↓cLen_t, ↓cList_l, ↓cList_q, ↓cList_t, ↓cListO_l, ↓cListO_t, ↓dIx_l, ↓dIx_q, ↓dIx_t, ↓dIx_o', ↓exS, ↓exL, at_1, at_2, at_3, at_4, ix30, ix31, ix32, ↓dSlL_l, ↓dSlL_q, ↓asQ_l, ↓asL_l, at_0, ↓isi_non_int, ↓isi_non_bool, ↓isi_non_str, ↓isi_non_list, ↓isi_non_tuple, ↓isi_non_dict, ↓isi_bl_int, ↓isi_bl_bool, ↓isi_bl_str, ↓isi_bl_list, ↓isi_bl_tuple, ↓isi_bl_dict, ↓isi_int_int, ↓isi_int_bool, ↓isi_int_str, ↓isi_int_list, ↓isi_int_tuple, ↓isi_int_dict, ↓isi_str_int, ↓isi_str_bool, ↓isi_str_str, ↓isi_str_list, ↓isi_str_tuple, ↓isi_str_dict, ↓isi_lst_int, ↓isi_lst_bool, ↓isi_lst_str, ↓isi_lst_list, ↓isi_lst_tuple, ↓isi_lst_dict, ↓isi_sq_int, ↓isi_sq_bool, ↓isi_sq_str, ↓isi_sq_list, ↓isi_sq_tuple, ↓isi_sq_dict, ↓isi_tup_int, ↓isi_tup_bool, ↓isi_tup_str, ↓isi_tup_list, ↓isi_tup_tuple, ↓isi_tup_dict, ↓isi_dic_int, ↓isi_dic_bool, ↓isi_dic_str, ↓isi_dic_list, ↓isi_dic_tuple, ↓isi_dic_dict, if_true, if_false, Bool.not_true, Bool.not_false, true_and, and_true, reduceCtorEq, Bool.true_eq_false, Bool.false_eq_true, ite_true, ite_false, ↓exAny, ↓isLst_l, Int.toNat_natCast, Int.reduceToNat, dVar_e, sPar_e, sPar3_e, sAug_e])))
local macro_rules | `(tactic| walk_at "dls") => `(tactic| ((try simp only [gstart, gwipe, List.set_set, List.map_cons, List.map_nil, List.length_cons, List.length_nil, rep_0, rep_s, List.cons_append, List.nil_append, List.set_cons_zero, List.set_cons_succ, Nat.reduceAdd, Nat.reduceSub, Nat.zero_add, Nat.add_zero]); (try simp only [*, ↓dv0, ↓dv1, ↓dv2, ↓dv3, ↓dv4, ↓dv5, ↓dv6, ↓dv7, ↓dv8, ↓dv9, ↓dv10, ↓dv11, ↓dv12, ↓dv13, ↓dv14, ↓dv15, ↓dv16, ↓dv17, ↓dv18, ↓dv19, ↓dv20, ↓dv21, ↓dv22, ↓dv23, ↓dv24, ↓dv25, ↓dv26, ↓dv27, ↓dv28, ↓dv29, ↓dv30, ↓dv31, ↓dv32, ↓dv33, ↓dv34, ↓dv35, ↓dv36, ↓dv37, ↓dv38, ↓dv39, ↓nm0, ↓nm1, ↓nm2, ↓nm3, ↓nm4, ↓nm5, ↓nm6, ↓nm7, ↓nm8, ↓nm9, ↓nm10, ↓nm11, ↓nm12, ↓nm13, ↓nm14, ↓nm15, ↓nm16, ↓nm17, ↓nm18, ↓nm19, ↓nm20, ↓nm21, ↓nm22, ↓nm23, ↓nm24, ↓nm25, ↓nm26, ↓nm27, ↓nm28, ↓nm29, ↓nm30, ↓nm31, ↓nm32, ↓nm33, ↓nm34, ↓nm35, ↓nm36, ↓nm37, ↓nm38, ↓nm39, ↓sPar_n, ↓sPar3_n, ↓sAug_n, ↓reduceIte, List.set_set, ↓sNext_e, ↓sSeq_e, ↓sBrk_e, ↓sCnt_e, ↓sDrop_e, ↓sRet_e, ↓sRetN_e, ↓sIf_e, ↓sAsg_e, ↓sRaise_e, ↓nmG_e, ↓tupG_e, ↓gsNil_e, ↓gsCons_e, ↓subG_e, ↓dC_e, ↓dOp_e, ↓dUn_e, ↓dChain_e, ↓bOf_e, ↓bAnd_e, ↓bOr_e, ↓bNot_e, ↓bYes_e, ↓dAnd_e, ↓dOr_e, ↓dNot_e, ↓dIf_e, ↓lNil_e, ↓lCons_e, ↓dLst_e, ↓dDic0_e, ↓dDic1_e, ↓dLenSetG_e, dIsB_b, ↓dLstO_e, ↓dTup_e, ↓dCB_e, ↓dCall_e, ↓dCallK_e, ↓oNone_e, ↓oSome_e, ↓dSl_e, ↓dBM_e, ↓dBM0_e, ↓dFz_e, ↓dFz2_e, ↓d2_e, ↓dLone_e, ↓lStar_e, ↓dCallA_e, ↓dMakeA_e, ↓dMakeV_e, ↓dMethA_e, ↓dCMethA_e, ↓dPropA_e, ↓dFld_e, ↓sFldS_e, ↓dFzI_e, ↓fzID_o, ↓dM1_e, ↓dM0_e, ↓dRev_e, ↓mSplit_s, ↓mUpper_s, ↓exStr, ↓exZ, ↓cStrI_i, ↓cIntS_s, ↓iStrD_e, ↓dEqF_s, ↓dNeF_s, ↓dEqF_i, ↓dNeF_i, ↓dSign_s, ↓sRaiseI_e, ↓dXFld_e, ↓mPop_e, ↓dAddO_l, ↓dAddO_o, ↓dMk0_e, ↓sKeep_e, ↓sTryH_e, ↓dCVal_e, ↓dConI_e, ↓cLen_s, ↓dIx_s, ↓dSlS_s, ↓dAdd_s, ↓cTup_l, ↓pkP_e, ↓pkS_e, ↓lstG_e, ↓asI_i, ↓iSeq_e, ↓iTupD_e, ↓iRg1_e, ↓iRg2_e, ↓iZipD_e, iZrD_e, ↓iEnumD_e, ↓sFor_e, ↓dLc_e, ↓finF_e, ↓finO_e, ↓fzD_l, ↓fzD_i, ↓fzD_o, ↓fzD2_o, ↓dSetO_e, ↓mAppend_e, ↓mClear_e, ↓mReverse_e, List.map_cons, List.map_nil, List.length_cons, List.length_nil, rep_0, rep_s, List.cons_append, List.nil_append, List.getElem?_cons_zero, List.getElem?_cons_succ, List.set_cons_zero, List.set_cons_succ, Nat.reduceAdd, Nat.reduceSub, Nat.zero_add, Nat.add_zero, ↓exSS, ↓exB, ↓exI, ↓ex1, ↓ex2, ↓ex3, ↓exI1, ↓exI2, ↓exT, ↓exC, ↓exAs, ↓dAdd_i, ↓dAddI_i, ↓dSubI_i, ↓dLRg_e, ↓dIsiT_e, ↓dLenSet_e, ↓bChain3_e, ↓dLRg2_e, ↓iRg3_e, ↓dLc2_e, ↓dSlT_t, dAddT_t, ↓dNewK_e, ↓dDis1_e, ↓sDkp_e, ↓dDGet_e, ↓dDGet2_e, ↓dLVals_e, ↓kD_ex_i, ↓dSS_e, ↓dST_e, ↓dSI_e, ↓lsG_e, ↓dMulI_i, ↓dNew_e, ↓sDct_e, ↓dMulO_l, ↓dLRgO_e, ↓dAdd_l, ↓dSub_i, ↓dMul_i, ↓dMul_l, ↓dMod_i, ↓dDiv_i, ↓dPow_i, ↓dLt_i, ↓dLe_i, ↓dGt_i, ↓dGe_i, ↓uNeg_i, ↓cMax2_i, ↓cMin2_i, ↓cAbs_i, ↓cInt_i, ↓cInt_b, ↓cLen_l, ↓cLen_q, ↓cLen_t, ↓cList_l, ↓cList_q, ↓cList_t, ↓cListO_l, ↓cListO_t, ↓dIx_l, ↓dIx_q, ↓dIx_t, ↓dIx_o', ↓exS, ↓exL, at_1, at_2, at_3, at_4, ix30, ix31, ix32, ↓dSlL_l, ↓dSlL_q, ↓asQ_l, ↓asL_l, at_0, ↓isi_non_int, ↓isi_non_bool, ↓isi_non_str, ↓isi_non_list, ↓isi_non_tuple, ↓isi_non_dict, ↓isi_bl_int, ↓isi_bl_bool, ↓isi_bl_str, ↓isi_bl_list, ↓isi_bl_tuple, ↓isi_bl_dict, ↓isi_int_int, ↓isi_int_bool, ↓isi_int_str, ↓isi_int_list, ↓isi_int_tuple, ↓isi_int_dict, ↓isi_str_int, ↓isi_str_bool, ↓isi_str_str, ↓isi_str_list, ↓isi_str_tuple, ↓isi_str_dict, ↓isi_lst_int, ↓isi_lst_bool, ↓isi_lst_str, ↓isi_lst_list, ↓isi_lst_tuple, ↓isi_lst_dict, ↓isi_sq_int, ↓isi_sq_bool, ↓isi_sq_str, ↓isi_sq_list, ↓isi_sq_tuple, ↓isi_sq_dict, ↓isi_tup_int, ↓isi_tup_bool, ↓isi_tup_str, ↓isi_tup_list, ↓isi_tup_tuple, ↓isi_tup_dict, ↓isi_dic_int, ↓isi_dic_bool, ↓isi_dic_str, ↓isi_dic_list, ↓isi_dic_tuple, ↓isi_dic_dict, if_true, if_false, Bool.not_true, Bool.not_false, true_and, and_true, reduceCtorEq, Bool.true_eq_false, Bool.false_eq_true, ite_true, ite_false, ↓exAny, ↓isLst_l, Int.toNat_natCast, Int.reduceToNat, dVar_e, sPar_e, sPar3_e, sAug_e])))
--MI
theorem lc_mapP {α : Type} {G : TGd} {Te : TD} {vs : List Nat} {Fin : List D → Sto → KD → Prop} {Γ : Gam} {S : Sto} {Φ : KD} (xs : List α) (f g : α → D) (hl : xs.length ≤ sizeLine) (hs : ∀ x ∈ xs, ∀ A : KD, A S (g x) → G (f x) (gwipe Γ vs) S fun Γ2 S2 => bYes Γ2 S2 (fun S3 k => if k = true then Te Γ2 S3 A (fun _ _ => False) else False) (fun _ _ => False)) (hd : Fin (xs.map g) S Φ) : lcP (fun _ => some (xs.map f)) G bYes Te vs Fin Γ S Φ := by
  refine lc_l (fun i acc S' => S' = S ∧ acc = (xs.take i).map g) (by rw [List.length_map]; exact hl) ⟨rfl, rfl⟩ (fun i acc S' hi hp => ?_) fun acc S' hp => ?_
  · obtain ⟨rfl, rfl⟩ := hp
    rw [List.length_map] at hi
    rw [List.getElem_map]
    have e : xs.take (i + 1) = xs.take i ++ [xs[i]] := List.take_succ_eq_append_getElem hi
    have := hs _ (List.getElem_mem hi) (fun S2 d => S2 = S' ∧ (xs.take i).map g ++ [d] = (xs.take (i + 1)).map g) ⟨rfl, by rw [e, List.map_append]; rfl⟩
    exact this
  · obtain ⟨rfl, rfl⟩ := hp
    rw [List.length_map, List.take_length]
    exact hd
theorem seqJ {A B : TSd} {E : EdD} {Γ : Gam} {S : Sto} (J : Gam → Sto → Prop) (k : ∀ N, (∀ Γ' S', J Γ' S' → N Γ' S') → A { E with nx := N } Γ S) (h : ∀ Γ' S', J Γ' S' → B E Γ' S') : sSeq A B E Γ S := k _ h
theorem most_at (ss : List Sg) : mostW ss = 0 ∨ ∃ s ∈ ss, mostW ss = s.w.toNat := by
  have gen : ∀ (ns : List Nat) (a : Nat), ns.foldl max a = a ∨ ns.foldl max a ∈ ns := by
    intro ns
    induction ns with
    | nil => intro a; exact .inl rfl
    | cons m ns ih =>
      intro a
      rcases ih (max a m) with h | h
      · show ns.foldl max (max a m) = a ∨ _
        rw [h]
        rcases Nat.le_total a m with c | c
        · rw [Nat.max_eq_right c]
          exact .inr (by rw [List.foldl_cons, h, Nat.max_eq_right c]; exact List.mem_cons_self)
        · exact .inl (Nat.max_eq_left c)
      · exact .inr (List.mem_cons_of_mem _ h)
  rcases gen (ss.map fun s => s.w.toNat) 0 with h | h
  · exact .inl h
  · obtain ⟨s, hs, e⟩ := List.mem_map.mp h
    exact .inr ⟨s, hs, e.symm⟩
theorem flat_len {α β : Type} {f : α → List β} {c : Nat} : ∀ {l : List α}, (∀ x ∈ l, (f x).length = c) → (l.flatMap f).length = l.length * c
  | [], _ => by simp
  | x :: l, h => by
    rw [List.flatMap_cons, List.length_append, h x List.mem_cons_self, flat_len fun y hy => h y (List.mem_cons_of_mem _ hy), List.length_cons, Nat.succ_mul]
    omega
theorem rowsN_count (m : Nat) : ∀ n, (rowsN m n).length = (m + 1) ^ n
  | 0 => rfl
  | n + 1 => by
    show ((rowsN m n).flatMap fun r => (List.range (m + 1)).map fun v => r ++ [v]).length = _
    rw [flat_len (c := m + 1) fun r _ => by rw [List.length_map, List.length_range], rowsN_count m n, Nat.pow_succ]
theorem asQ_grow {S T : Sto} {d : D} {ds : List D} (h : asQ S d = some ds) : asQ (S ++ T) d = some ds := by
  cases d with
  | own i =>
    cases hi : S[i]? with
    | none =>
      simp only [asQ, hi] at h
      cases h
    | some c =>
      have lt : i < S.length := (List.getElem?_eq_some_iff.mp hi).1
      have e2 : (S ++ T)[i]? = some c := by rw [List.getElem?_append_left lt]; exact hi
      simp only [asQ, hi] at h
      simp only [asQ, e2]
      exact h
  | _ => exact h
theorem zip_range {X : List (Nat × Nat)} {r : List Nat} (h : r.length = X.length) : X.zip r = (List.range X.length).map fun k => (X.getD k (0, 0), r.getD k 0) := by
  apply List.ext_getElem
  · rw [List.length_zip, List.length_map, List.length_range]
    omega
  · intro k h1 h2
    rw [List.length_zip] at h1
    rw [List.getElem_zip, List.getElem_map, List.getElem_range, List.getD_eq_getElem?_getD, List.getD_eq_getElem?_getD, List.getElem?_eq_getElem (by omega), List.getElem?_eq_getElem (by omega)]
    rfl
theorem inRow_range {s : Sg} {X : List (Nat × Nat)} {r : List Nat} (h : r.length = X.length) : inRow s X r = ((List.range X.length).filter fun k => hasB s (X.getD k (0, 0)).1 (X.getD k (0, 0)).2).map fun k => r.getD k 0 := by
  unfold inRow
  rw [zip_range h, List.filter_map, List.map_map]
  rfl
theorem enum_spots (X : List (Nat × Nat)) : enumD (X.map spD) = (List.range X.length).map fun (k : Nat) => D.tup [.int (k : Int), spD (X.getD k (0, 0))] := by
  apply List.ext_getElem?
  intro k
  by_cases hk : k < X.length
  · rw [List.getElem?_eq_getElem (by rw [en_len]; exact hk), en_get X spD hk, List.getElem?_map, List.getElem?_range hk, Option.map_some, List.getD_eq_getElem?_getD, List.getElem?_eq_getElem hk]
    rfl
  · rw [List.getElem?_eq_none (by rw [en_len]; omega), List.getElem?_eq_none (by rw [List.length_map, List.length_range]; omega)]
theorem p__law_all : Rets sp__law_all T__law_all N__law_all := by
  rintro _ S Φ Ψ ⟨X, ss, rfl, hl, hw, sp, q⟩
  unfold T__law_all
  have get_last : ∀ (A : Sto) (c : Cell), (A ++ [c])[A.length]? = some c := fun A c => by
    rw [List.getElem?_append_right (Nat.le_refl _), Nat.sub_self]; rfl
  have set_last : ∀ (A : Sto) (c c' : Cell), (A ++ [c]).set A.length c' = A ++ [c'] := fun A c c' => by
    rw [List.set_append_right _ _ (Nat.le_refl _), Nat.sub_self]; rfl
  have m3 : mostW ss ≤ 3 := by
    rcases most_at ss with h | ⟨s, hs, h⟩
    · omega
    · have := hw s hs
      omega
  have few : ∀ k, k ≤ 5 → (rowsN (mostW ss) k).length ≤ 1024 := fun k hk => by
    rw [rowsN_count]
    exact Nat.le_trans (Nat.pow_le_pow_left (show mostW ss + 1 ≤ 4 by omega) k) (Nat.pow_le_pow_right (by decide) hk)
  refine seqJ (fun Γ S' => S' = S ∧ Γ = [some (.lst (X.map spD)), some (sgsD ss), some (.int (mostW ss : Nat)), none, none, none, none, none, none, none, none, none, none]) (fun N hN => ?_) fun Γ S' hΓ => ?_
  · walk_at "dl"
    refine ⟨small (by decide), lc_mapP ss sgD (fun s => .int s.w) (small (by omega)) (fun s hs A hA => ?_) ?_⟩
    · walk_at "dl"
      exact hA
    · rw [finF_e]
      have e1 : (ss.map fun s => D.int s.w) = (ss.map (·.w)).map D.int := by rw [List.map_map]; rfl
      rw [e1]
      walk_at "dl"
      refine ⟨by rw [List.length_map, List.length_map]; exact small (by omega), 0 :: ss.map (·.w), rfl, Nat.succ_pos _, fun m hm1 hm2 => ?_⟩
      have em : m = ((mostW ss : Nat) : Int) := by
        have h0 := hm2 0 List.mem_cons_self
        have hb : ∀ s ∈ ss, s.w ≤ m := fun s hs => hm2 _ (List.mem_cons_of_mem _ (List.mem_map.mpr ⟨s, hs, rfl⟩))
        have up : ((mostW ss : Nat) : Int) ≤ m := by
          rcases most_at ss with h | ⟨s, hs, h⟩
          · omega
          · have := hb s hs
            have := (hw s hs).1
            omega
        rcases List.mem_cons.mp hm1 with e | e
        · omega
        · obtain ⟨s, hs, rfl⟩ := List.mem_map.mp e
          have := most_le hs
          have := (hw s hs).1
          omega
      rw [em]
      exact hN _ _ ⟨rfl, rfl⟩
  obtain ⟨rfl, rfl⟩ := hΓ
  refine seqJ (fun Γ S2 => S2 = S' ∧ Γ = [some (.lst (X.map spD)), some (sgsD ss), some (.int (mostW ss : Nat)), some (.lst [.lst []]), none, none, none, none, none, none, none, none, none]) (fun N hN => ?_) fun Γ S2 hΓ => ?_
  · walk_at "dl"
    exact ⟨small (by decide), small (by decide), hN _ _ ⟨rfl, rfl⟩⟩
  obtain ⟨rfl, rfl⟩ := hΓ
  refine seqJ (fun Γ S3 => (∃ Z, S3 = S2 ++ Z) ∧ ∃ d3, asQ S3 d3 = some ((rowsN (mostW ss) X.length).map natsD) ∧ ∃ o4 o5 o6 o7 o8 o9 o10 o11 o12 : Option D, Γ = [some (.lst (X.map spD)), some (sgsD ss), some (.int (mostW ss : Nat)), some d3, o4, o5, o6, o7, o8, o9, o10, o11, o12]) (fun N hN => ?_) fun Γ S3 hΓ => ?_
  · walk_at "dl"
    refine for_l (ds := X.map spD) (fun k Γ S3 => (∃ Z, S3 = S2 ++ Z) ∧ ∃ d3, asQ S3 d3 = some ((rowsN (mostW ss) k).map natsD) ∧ ∃ o4 o5 o6 o7 o8 o9 o10 o11 o12 : Option D, Γ = [some (.lst (X.map spD)), some (sgsD ss), some (.int (mostW ss : Nat)), some d3, o4, o5, o6, o7, o8, o9, o10, o11, o12]) ⟨⟨[], (List.append_nil _).symm⟩, _, rfl, _, _, _, _, _, _, _, _, _, rfl⟩ (fun k Γ' S3 hk hp => ?_) fun Γ' S3 hp => ?_
    · obtain ⟨⟨Z, rfl⟩, d3, e3, o4, o5, o6, o7, o8, o9, o10, o11, o12, rfl⟩ := hp
      rw [List.length_map] at hk
      have hk5 := sp.hi
      rw [List.getElem_map]
      obtain ⟨S4, hS4⟩ : ∃ S4, S4 = S2 ++ Z := ⟨_, rfl⟩
      rw [← hS4] at e3 ⊢
      walk_at "dl"
      refine ⟨small (by decide), ⟨_, asQ_grow e3⟩, ?_⟩
      refine for_s (ds := (rowsN (mostW ss) k).map natsD) (fun j Γ S5 => S5 = S4 ++ [.lst (((rowsN (mostW ss) k).take j).flatMap fun r => (List.range (mostW ss + 1)).map fun v => natsD (r ++ [v]))] ∧ ∃ o6 o7 o8 o9 o10 o11 o12 : Option D, Γ = [some (.lst (X.map spD)), some (sgsD ss), some (.int (mostW ss : Nat)), some d3, some (spD X[k]), some (.own S4.length), o6, o7, o8, o9, o10, o11, o12]) ⟨rfl, _, _, _, _, _, _, _, rfl⟩ (fun j Γ' S5 hp => by rw [hp.1]; exact asQ_grow e3) (fun j Γ' S5 hj hp => ?_) fun Γ' S5 hp => ?_
      · obtain ⟨rfl, o6, o7, o8, o9, o10, o11, o12, rfl⟩ := hp
        rw [List.length_map] at hj
        rw [List.getElem_map]
        have hr := rowsN_len (List.getElem_mem hj)
        have tk := List.take_succ_eq_append_getElem hj
        rw [tk, List.flatMap_append, List.flatMap_singleton]
        have fl : (((rowsN (mostW ss) k).take j).flatMap fun r => (List.range (mostW ss + 1)).map fun v => natsD (r ++ [v])).length ≤ 4096 := by
          rw [flat_len (c := mostW ss + 1) fun r _ => by rw [List.length_map, List.length_range], List.length_take]
          have := few k (by omega)
          have : min j (rowsN (mostW ss) k).length ≤ 1024 := by omega
          exact Nat.le_trans (Nat.mul_le_mul this (show mostW ss + 1 ≤ 4 by omega)) (by decide)
        generalize ((rowsN (mostW ss) k).take j).flatMap (fun r => (List.range (mostW ss + 1)).map fun v => natsD (r ++ [v])) = acc0 at fl ⊢
        generalize (rowsN (mostW ss) k)[j] = r at hr ⊢
        walk_at "dl"
        refine ⟨isLst_at (get_last _ _), by omega, by omega, ?_⟩
        rw [show (((mostW ss : Nat) : Int) + 1).toNat = mostW ss + 1 by omega]
        refine lc_r0 (n := mostW ss + 1) (fun i acc S6 => S6 = S4 ++ [Cell.lst acc0] ∧ acc = (List.range i).map fun v => natsD (r ++ [v])) (small (by omega)) ⟨rfl, rfl⟩ (fun i acc S6 hi hp => ?_) fun acc S6 hp => ?_
        · obtain ⟨rfl, rfl⟩ := hp
          walk_at "dl"
          refine ⟨small (by decide), by rw [List.length_map, hr]; exact small (by omega), ?_⟩
          rw [List.range_succ, List.map_append]
          show _ ++ [D.lst (r.map (fun (n : Nat) => D.int (n : Int)) ++ [D.int (i : Int)])] = _ ++ [natsD (r ++ [i])]
          unfold natsD
          rw [List.map_append]
          rfl
        · obtain ⟨rfl, rfl⟩ := hp
          rw [finF_e]
          refine ⟨_, _, get_last _ _, rfl, by rw [List.length_map, List.length_range]; exact small (by omega), ?_, _, _, _, _, _, _, _, rfl⟩
          rw [set_last]
      · obtain ⟨rfl, o6, o7, o8, o9, o10, o11, o12, rfl⟩ := hp
        walk_at "dl"
        have er : (rowsN (mostW ss) (k + 1)).map natsD = (rowsN (mostW ss) k).flatMap fun r => (List.range (mostW ss + 1)).map fun v => natsD (r ++ [v]) := by
          show ((rowsN (mostW ss) k).flatMap fun r => (List.range (mostW ss + 1)).map fun v => r ++ [v]).map natsD = _
          rw [List.map_flatMap]
          congr 1
          funext r
          rw [List.map_map]
          rfl
        rw [List.length_map, List.take_length, er]
        exact ⟨⟨Z ++ _, by rw [hS4, List.append_assoc]⟩, _, asQ_at' (get_last _ _), _, _, _, _, _, _, _, _, _, rfl⟩
    · rw [List.length_map] at hp
      exact hN _ _ hp
  obtain ⟨⟨Z, rfl⟩, d3, e3, o4, o5, o6, o7, o8, o9, o10, o11, o12, rfl⟩ := hΓ
  have everyL : ∀ j, (((rowsN (mostW ss) X.length).take j).filter (fineB X ss)).length ≤ 1024 := fun j => by
    have h1 := List.length_filter_le (fineB X ss) ((rowsN (mostW ss) X.length).take j)
    rw [List.length_take] at h1
    have := few X.length sp.hi
    omega
  walk_at "dl"
  obtain ⟨S4, hS4⟩ : ∃ S4, S4 = S2 ++ Z := ⟨_, rfl⟩
  rw [← hS4] at e3 ⊢
  refine ⟨small (by decide), ⟨_, asQ_grow e3⟩, ?_⟩
  refine for_s (ds := (rowsN (mostW ss) X.length).map natsD) (fun j Γ S5 => S5 = S4 ++ [.lst ((((rowsN (mostW ss) X.length).take j).filter (fineB X ss)).map natsD)] ∧ ∃ o4 o5 o6 o8 o9 o10 o11 o12 : Option D, Γ = [some (.lst (X.map spD)), some (sgsD ss), some (.int (mostW ss : Nat)), some d3, o4, o5, o6, some (.own S4.length), o8, o9, o10, o11, o12]) ⟨rfl, _, _, _, _, _, _, _, _, rfl⟩ (fun j Γ' S5 hp => by rw [hp.1]; exact asQ_grow e3) (fun j Γ' S5 hj hp => ?_) fun Γ' S5 hp => ?_
  · obtain ⟨rfl, o4, o5, o6, o8, o9, o10, o11, o12, rfl⟩ := hp
    rw [List.length_map] at hj
    rw [List.getElem_map]
    have hr := rowsN_len (List.getElem_mem hj)
    have tk := List.take_succ_eq_append_getElem hj
    have el := everyL j
    rw [tk, List.filter_append, List.map_append]
    generalize ((rowsN (mostW ss) X.length).take j).filter (fineB X ss) = acc0 at el ⊢
    generalize (rowsN (mostW ss) X.length)[j] = r at hr ⊢
    walk_at "dl"
    refine for_l (ds := ss.map sgD) (fun i Γ S5 => S5 = S4 ++ [.lst (acc0.map natsD)] ∧ ∃ o4 o5 o9 o10 o11 o12 : Option D, Γ = [some (.lst (X.map spD)), some (sgsD ss), some (.int (mostW ss : Nat)), some d3, o4, o5, some (natsD r), some (.own S4.length), some (.bl (fineB X (ss.take i) r)), o9, o10, o11, o12]) ⟨rfl, _, _, _, _, _, _, rfl⟩ (fun i Γ' S5 hi hp => ?_) fun Γ' S5 hp => ?_
    · obtain ⟨rfl, o4, o5, o9, o10, o11, o12, rfl⟩ := hp
      rw [List.length_map] at hi
      rw [List.getElem_map]
      have hm : ss[i] ∈ ss := List.getElem_mem hi
      have ts := List.take_succ_eq_append_getElem hi
      have fs : fineB X (ss.take (i + 1)) r = (fineB X (ss.take i) r && ((inRow ss[i] X r).any (fun v => decide ((v : Int) = ss[i].w)) && (inRow ss[i] X r).all fun v => decide ((v : Int) ≤ ss[i].w))) := by
        rw [ts]
        unfold fineB
        rw [List.all_append]
        simp
      rw [fs]
      have ws := hw _ hm
      have ne : inRow ss[i] X r ≠ [] := by
        have hb := hasB_iff.mpr (⟨rfl, Nat.le_refl _, ws.2.2⟩ : ss[i].c = ss[i].c ∧ ss[i].f ≤ ss[i].f ∧ ss[i].f ≤ ss[i].l)
        have hx := (sp.mem (ss[i].f, ss[i].c)).mpr ⟨_, hm, hb⟩
        obtain ⟨k, hk, ek⟩ := List.getElem_of_mem hx
        intro z
        have : r.getD k 0 ∈ inRow ss[i] X r := by
          rw [inRow_range hr]
          refine List.mem_map.mpr ⟨k, List.mem_filter.mpr ⟨List.mem_range.mpr hk, ?_⟩, rfl⟩
          rw [List.getD_eq_getElem?_getD, List.getElem?_eq_getElem hk]
          show hasB ss[i] X[k].1 X[k].2 = true
          rw [ek]
          exact hb
        rw [z] at this
        cases this
      have ir := inRow_range (s := ss[i]) hr
      generalize ss[i] = s at ws ne ir ⊢
      walk_at "dl"
      refine lc_filtS (List.range X.length) (fun (k : Nat) => D.tup [.int (k : Int), spD (X.getD k (0, 0))]) (fun k => D.int (r.getD k 0 : Nat)) (fun k => hasB s (X.getD k (0, 0)).1 (X.getD k (0, 0)).2) (by rw [Option.map_some, enum_spots]) (small (by rw [List.length_range]; have := sp.hi; omega)) (fun k hk A N h1 h2 => ?_) ?_
      · have hk := List.mem_range.mp hk
        walk_at "dl"
        refine ⟨s, _, _, rfl, _, rfl, ?_⟩
        cases hc : hasB s (X.getD k (0, 0)).1 (X.getD k (0, 0)).2 with
        | false => rw [if_neg Bool.false_ne_true]; exact h2 hc
        | true =>
          rw [if_pos rfl]
          refine ⟨_, ?_, h1 hc⟩
          rw [at_nat, List.getElem?_map, List.getD_eq_getElem?_getD, List.getElem?_eq_getElem (by omega)]
          rfl
      · rw [finF_e]
        have e1 : (((List.range X.length).filter fun k => hasB s (X.getD k (0, 0)).1 (X.getD k (0, 0)).2).map fun k => D.int (r.getD k 0 : Nat)) = ((inRow s X r).map fun (v : Nat) => (v : Int)).map D.int := by
          rw [ir, List.map_map, List.map_map]
          rfl
        rw [e1]
        generalize inRow s X r = vs at ne ⊢
        generalize fineB X (ss.take i) r = fb
        walk_at "dl"
        cases fb with
        | false =>
          rw [if_neg Bool.false_ne_true, Bool.false_and]
          exact ⟨_, _, _, _, _, _, rfl⟩
        | true =>
          rw [if_pos rfl]
          refine ⟨vs.map fun (v : Nat) => (v : Int), rfl, by rw [List.length_map]; exact List.length_pos_iff.mpr ne, fun m hm1 hm2 => ⟨rfl, rfl, ?_⟩⟩
          have ev : (m == s.w) = ((vs.any fun v => decide ((v : Int) = s.w)) && vs.all fun v => decide ((v : Int) ≤ s.w)) := by
            obtain ⟨v0, hv0, rfl⟩ := List.mem_map.mp hm1
            have up : ∀ v ∈ vs, (v : Int) ≤ (v0 : Int) := fun v hv => hm2 _ (List.mem_map.mpr ⟨v, hv, rfl⟩)
            rw [Bool.eq_iff_iff, Bool.and_eq_true, beq_iff_eq, List.any_eq_true, List.all_eq_true]
            constructor
            · intro e
              exact ⟨⟨v0, hv0, decide_eq_true e⟩, fun v hv => decide_eq_true (e ▸ up v hv)⟩
            · rintro ⟨⟨v, hv, e⟩, h⟩
              have e := of_decide_eq_true e
              have := of_decide_eq_true (h v0 hv0)
              have := up v hv
              omega
          rw [Bool.true_and, ← ev]
          exact ⟨_, _, _, _, _, _, rfl⟩
    · obtain ⟨rfl, o4, o5, o9, o10, o11, o12, rfl⟩ := hp
      rw [List.length_map, List.take_length]
      dsimp only
      rw [sJ_e]
      walk_at "dl"
      cases hf : fineB X ss r with
      | false =>
        rw [if_neg Bool.false_ne_true, List.filter_cons_of_neg (by rw [hf]; exact Bool.false_ne_true)]
        exact ⟨by rw [List.filter_nil, List.map_nil, List.append_nil], _, _, _, _, _, _, _, _, rfl⟩
      | true =>
        rw [if_pos rfl, List.filter_cons_of_pos hf]
        refine ⟨isLst_at (get_last _ _), _, get_last _ _, by rw [List.length_map]; have := small (n := 2000); omega, ?_, _, _, _, _, _, _, _, _, rfl⟩
        rw [set_last]
        rfl
  · obtain ⟨rfl, o4, o5, o6, o8, o9, o10, o11, o12, rfl⟩ := hp
    rw [List.length_map, List.take_length]
    walk_at "dl"
    refine ⟨_, get_last _ _, ?_⟩
    rw [set_last, hS4, List.append_assoc]
    exact ret_cut (by rw [D.low]; exact lowA_map _ _ (fun r => by rw [D.low]; exact lowA_map _ _ (fun _ => rfl) _) _) q
end DL
namespace DL
open PySem PySem.Spec PyProof.Rows L2
local macro_rules | `(tactic| walk_at "dl") => `(tactic| ((try simp only [gstart, gwipe, List.set_set, List.map_cons, List.map_nil, List.length_cons, List.length_nil, rep_0, rep_s, List.cons_append, List.nil_append, List.set_cons_zero, List.set_cons_succ, Nat.reduceAdd, Nat.reduceSub, Nat.zero_add, Nat.add_zero]); (try simp only [↓dv0, ↓dv1, ↓dv2, ↓dv3, ↓dv4, ↓dv5, ↓dv6, ↓dv7, ↓dv8, ↓dv9, ↓dv10, ↓dv11, ↓dv12, ↓dv13, ↓dv14, ↓dv15, ↓dv16, ↓dv17, ↓dv18, ↓dv19, ↓dv20, ↓dv21, ↓dv22, ↓dv23, ↓dv24, ↓dv25, ↓dv26, ↓dv27, ↓dv28, ↓dv29, ↓dv30, ↓dv31, ↓dv32, ↓dv33, ↓dv34, ↓dv35, ↓dv36, ↓dv37, ↓dv38, ↓dv39, ↓nm0, ↓nm1, ↓nm2, ↓nm3, ↓nm4, ↓nm5, ↓nm6, ↓nm7, ↓nm8, ↓nm9, ↓nm10, ↓nm11, ↓nm12, ↓nm13, ↓nm14, ↓nm15, ↓nm16, ↓nm17, ↓nm18, ↓nm19, ↓nm20, ↓nm21, ↓nm22, ↓nm23, ↓nm24, ↓nm25, ↓nm26, ↓nm27, ↓nm28, ↓nm29, ↓nm30, ↓nm31, ↓nm32, ↓nm33, ↓nm34, ↓nm35, ↓nm36, ↓nm37, ↓nm38, ↓nm39, ↓sPar_n, ↓sPar3_n, ↓sAug_n, ↓reduceIte, List.set_set, ↓sNext_e, ↓sSeq_e, ↓sBrk_e, ↓sCnt_e, ↓sDrop_e, ↓sRet_e, ↓sRetN_e, ↓sIf_e, ↓sAsg_e, ↓sRaise_e, ↓nmG_e, ↓tupG_e, ↓gsNil_e, ↓gsCons_e, ↓subG_e, ↓dC_e, ↓dOp_e, ↓dUn_e, ↓dChain_e, ↓bOf_e, ↓bAnd_e, ↓bOr_e, ↓bNot_e, ↓bYes_e, ↓dAnd_e, ↓dOr_e, ↓dNot_e, ↓dIf_e, ↓lNil_e, ↓lCons_e, ↓dLst_e, ↓dDic0_e, ↓dDic1_e, ↓dLenSetG_e, dIsB_b, ↓dLstO_e, ↓dTup_e, ↓dCB_e, ↓dCall_e, ↓dCallK_e, ↓oNone_e, ↓oSome_e, ↓dSl_e, ↓dBM_e, ↓dBM0_e, ↓dFz_e, ↓dFz2_e, ↓d2_e, ↓dLone_e, ↓lStar_e, ↓dCallA_e, ↓dMakeA_e, ↓dMakeV_e, ↓dMethA_e, ↓dCMethA_e, ↓dPropA_e, ↓dFld_e, ↓sFldS_e, ↓dFzI_e, ↓fzID_o, ↓dM1_e, ↓dM0_e, ↓dRev_e, ↓mSplit_s, ↓mUpper_s, ↓exStr, ↓exZ, ↓cStrI_i, ↓cIntS_s, ↓iStrD_e, ↓dEqF_s, ↓dNeF_s, ↓dEqF_i, ↓dNeF_i, ↓dSign_s, ↓sRaiseI_e, ↓dXFld_e, ↓mPop_e, ↓dAddO_l, ↓dAddO_o, ↓dMk0_e, ↓sKeep_e, ↓sTryH_e, ↓dCVal_e, ↓dConI_e, ↓cLen_s, ↓dIx_s, ↓dSlS_s, ↓dAdd_s, ↓cTup_l, ↓pkP_e, ↓pkS_e, ↓lstG_e, ↓asI_i, ↓iSeq_e, ↓iTupD_e, ↓iRg1_e, ↓iRg2_e, ↓iZipD_e, iZrD_e, ↓iEnumD_e, ↓sFor_e, ↓dLc_e, ↓finF_e, ↓finO_e, ↓fzD_l, ↓fzD_i, ↓fzD_o, ↓fzD2_o, ↓dSetO_e, ↓mAppend_e, ↓mClear_e, ↓mReverse_e, List.map_cons, List.map_nil, List.length_cons, List.length_nil, rep_0, rep_s, List.cons_append, List.nil_append, List.getElem?_cons_zero, List.getElem?_cons_succ, List.set_cons_zero, List.set_cons_succ, Nat.reduceAdd, Nat.reduceSub, Nat.zero_add, Nat.add_zero, ↓exSS, ↓exB, ↓exI, ↓ex1, ↓ex2, ↓ex3, ↓exI1, ↓exI2, ↓exT, ↓exC, ↓exAs, ↓dAdd_i, ↓dAddI_i, ↓dSubI_i, ↓dLRg_e, ↓dIsiT_e, ↓dLenSet_e, ↓bChain3_e, ↓dLRg2_e, ↓iRg3_e, ↓dLc2_e, ↓dSlT_t, dAddT_t, ↓dNewK_e, ↓dDis1_e, ↓sDkp_e, ↓dDGet_e, ↓dDGet2_e, ↓dLVals_e, ↓kD_ex_i, ↓dSS_e, ↓dST_e, ↓dSI_e, ↓lsG_e, ↓dMulI_i, ↓dNew_e, ↓sDct_e, ↓dMulO_l, ↓dLRgO_e, ↓dAdd_l, ↓dSub_i, ↓dMul_i, ↓dMul_l, ↓dMod_i, ↓dDiv_i, ↓dPow_i, ↓dLt_i, ↓dLe_i, ↓dGt_i, ↓dGe_i, ↓uNeg_i, ↓cMax2_i, ↓cMin2_i, ↓cAbs_i, ↓cInt_i, ↓cInt_b, ↓cLen_l, ↓cLen_q, ↓cLen_t, ↓cList_l, ↓cList_q, ↓cList_t, ↓cListO_l, ↓cListO_t, ↓dIx_l, ↓dIx_q, ↓dIx_t, ↓dIx_o', ↓exS, ↓exL, at_1, at_2, at_3, at_4, ix30, ix31, ix32, ↓dSlL_l, ↓dSlL_q, ↓asQ_l, ↓asL_l, at_0, ↓isi_non_int, ↓isi_non_bool, ↓isi_non_str, ↓isi_non_list, ↓isi_non_tuple, ↓isi_non_dict, ↓isi_bl_int, ↓isi_bl_bool, ↓isi_bl_str, ↓isi_bl_list, ↓isi_bl_tuple, ↓isi_bl_dict, ↓isi_int_int, ↓isi_int_bool, ↓isi_int_str, ↓isi_int_list, ↓isi_int_tuple, ↓isi_int_dict, ↓isi_str_int, ↓isi_str_bool, ↓isi_str_str, ↓isi_str_list, ↓isi_str_tuple, ↓isi_str_dict, ↓isi_lst_int, ↓isi_lst_bool, ↓isi_lst_str, ↓isi_lst_list, ↓isi_lst_tuple, ↓isi_lst_dict, ↓isi_sq_int, ↓isi_sq_bool, ↓isi_sq_str, ↓isi_sq_list, ↓isi_sq_tuple, ↓isi_sq_dict, ↓isi_tup_int, ↓isi_tup_bool, ↓isi_tup_str, ↓isi_tup_list, ↓isi_tup_tuple, ↓isi_tup_dict, ↓isi_dic_int, ↓isi_dic_bool, ↓isi_dic_str, ↓isi_dic_list, ↓isi_dic_tuple, ↓isi_dic_dict, if_true, if_false, Bool.not_true, Bool.not_false, true_and, and_true, reduceCtorEq, Bool.true_eq_false, Bool.false_eq_true, ite_true, ite_false, ↓exAny, ↓isLst_l, Int.toNat_natCast, Int.reduceToNat, dVar_e, sPar_e, sPar3_e, sAug_e])))
local macro_rules | `(tactic| walk_at "dls") => `(tactic| ((try simp only [gstart, gwipe, List.set_set, List.map_cons, List.map_nil, List.length_cons, List.length_nil, rep_0, rep_s, List.cons_append, List.nil_append, List.set_cons_zero, List.set_cons_succ, Nat.reduceAdd, Nat.reduceSub, Nat.zero_add, Nat.add_zero]); (try simp only [*, ↓dv0, ↓dv1, ↓dv2, ↓dv3, ↓dv4, ↓dv5, ↓dv6, ↓dv7, ↓dv8, ↓dv9, ↓dv10, ↓dv11, ↓dv12, ↓dv13, ↓dv14, ↓dv15, ↓dv16, ↓dv17, ↓dv18, ↓dv19, ↓dv20, ↓dv21, ↓dv22, ↓dv23, ↓dv24, ↓dv25, ↓dv26, ↓dv27, ↓dv28, ↓dv29, ↓dv30, ↓dv31, ↓dv32, ↓dv33, ↓dv34, ↓dv35, ↓dv36, ↓dv37, ↓dv38, ↓dv39, ↓nm0, ↓nm1, ↓nm2, ↓nm3, ↓nm4, ↓nm5, ↓nm6, ↓nm7, ↓nm8, ↓nm9, ↓nm10, ↓nm11, ↓nm12, ↓nm13, ↓nm14, ↓nm15, ↓nm16, ↓nm17, ↓nm18, ↓nm19, ↓nm20, ↓nm21, ↓nm22, ↓nm23, ↓nm24, ↓nm25, ↓nm26, ↓nm27, ↓nm28, ↓nm29, ↓nm30, ↓nm31, ↓nm32, ↓nm33, ↓nm34, ↓nm35, ↓nm36, ↓nm37, ↓nm38, ↓nm39, ↓sPar_n, ↓sPar3_n, ↓sAug_n, ↓reduceIte, List.set_set, ↓sNext_e, ↓sSeq_e, ↓sBrk_e, ↓sCnt_e, ↓sDrop_e, ↓sRet_e, ↓sRetN_e, ↓sIf_e, ↓sAsg_e, ↓sRaise_e, ↓nmG_e, ↓tupG_e, ↓gsNil_e, ↓gsCons_e, ↓subG_e, ↓dC_e, ↓dOp_e, ↓dUn_e, ↓dChain_e, ↓bOf_e, ↓bAnd_e, ↓bOr_e, ↓bNot_e, ↓bYes_e, ↓dAnd_e, ↓dOr_e, ↓dNot_e, ↓dIf_e, ↓lNil_e, ↓lCons_e, ↓dLst_e, ↓dDic0_e, ↓dDic1_e, ↓dLenSetG_e, dIsB_b, ↓dLstO_e, ↓dTup_e, ↓dCB_e, ↓dCall_e, ↓dCallK_e, ↓oNone_e, ↓oSome_e, ↓dSl_e, ↓dBM_e, ↓dBM0_e, ↓dFz_e, ↓dFz2_e, ↓d2_e, ↓dLone_e, ↓lStar_e, ↓dCallA_e, ↓dMakeA_e, ↓dMakeV_e, ↓dMethA_e, ↓dCMethA_e, ↓dPropA_e, ↓dFld_e, ↓sFldS_e, ↓dFzI_e, ↓fzID_o, ↓dM1_e, ↓dM0_e, ↓dRev_e, ↓mSplit_s, ↓mUpper_s, ↓exStr, ↓exZ, ↓cStrI_i, ↓cIntS_s, ↓iStrD_e, ↓dEqF_s, ↓dNeF_s, ↓dEqF_i, ↓dNeF_i, ↓dSign_s, ↓sRaiseI_e, ↓dXFld_e, ↓mPop_e, ↓dAddO_l, ↓dAddO_o, ↓dMk0_e, ↓sKeep_e, ↓sTryH_e, ↓dCVal_e, ↓dConI_e, ↓cLen_s, ↓dIx_s, ↓dSlS_s, ↓dAdd_s, ↓cTup_l, ↓pkP_e, ↓pkS_e, ↓lstG_e, ↓asI_i, ↓iSeq_e, ↓iTupD_e, ↓iRg1_e, ↓iRg2_e, ↓iZipD_e, iZrD_e, ↓iEnumD_e, ↓sFor_e, ↓dLc_e, ↓finF_e, ↓finO_e, ↓fzD_l, ↓fzD_i, ↓fzD_o, ↓fzD2_o, ↓dSetO_e, ↓mAppend_e, ↓mClear_e, ↓mReverse_e, List.map_cons, List.map_nil, List.length_cons, List.length_nil, rep_0, rep_s, List.cons_append, List.nil_append, List.getElem?_cons_zero, List.getElem?_cons_succ, List.set_cons_zero, List.set_cons_succ, Nat.reduceAdd, Nat.reduceSub, Nat.zero_add, Nat.add_zero, ↓exSS, ↓exB, ↓exI, ↓ex1, ↓ex2, ↓ex3, ↓exI1, ↓exI2, ↓exT, ↓exC, ↓exAs, ↓dAdd_i, ↓dAddI_i, ↓dSubI_i, ↓dLRg_e, ↓dIsiT_e, ↓dLenSet_e, ↓bChain3_e, ↓dLRg2_e, ↓iRg3_e, ↓dLc2_e, ↓dSlT_t, dAddT_t, ↓dNewK_e, ↓dDis1_e, ↓sDkp_e, ↓dDGet_e, ↓dDGet2_e, ↓dLVals_e, ↓kD_ex_i, ↓dSS_e, ↓dST_e, ↓dSI_e, ↓lsG_e, ↓dMulI_i, ↓dNew_e, ↓sDct_e, ↓dMulO_l, ↓dLRgO_e, ↓dAdd_l, ↓dSub_i, ↓dMul_i, ↓dMul_l, ↓dMod_i, ↓dDiv_i, ↓dPow_i, ↓dLt_i, ↓dLe_i, ↓dGt_i, ↓dGe_i, ↓uNeg_i, ↓cMax2_i, ↓cMin2_i, ↓cAbs_i, ↓cInt_i, ↓cInt_b, ↓cLen_l, ↓cLen_q, ↓cLen_t, ↓cList_l, ↓cList_q, ↓cList_t, ↓cListO_l, ↓cListO_t, ↓dIx_l, ↓dIx_q, ↓dIx_t, ↓dIx_o', ↓exS, ↓exL, at_1, at_2, at_3, at_4, ix30, ix31, ix32, ↓dSlL_l, ↓dSlL_q, ↓asQ_l, ↓asL_l, at_0, ↓isi_non_int, ↓isi_non_bool, ↓isi_non_str, ↓isi_non_list, ↓isi_non_tuple, ↓isi_non_dict, ↓isi_bl_int, ↓isi_bl_bool, ↓isi_bl_str, ↓isi_bl_list, ↓isi_bl_tuple, ↓isi_bl_dict, ↓isi_int_int, ↓isi_int_bool, ↓isi_int_str, ↓isi_int_list, ↓isi_int_tuple, ↓isi_int_dict, ↓isi_str_int, ↓isi_str_bool, ↓isi_str_str, ↓isi_str_list, ↓isi_str_tuple, ↓isi_str_dict, ↓isi_lst_int, ↓isi_lst_bool, ↓isi_lst_str, ↓isi_lst_list, ↓isi_lst_tuple, ↓isi_lst_dict, ↓isi_sq_int, ↓isi_sq_bool, ↓isi_sq_str, ↓isi_sq_list, ↓isi_sq_tuple, ↓isi_sq_dict, ↓isi_tup_int, ↓isi_tup_bool, ↓isi_tup_str, ↓isi_tup_list, ↓isi_tup_tuple, ↓isi_tup_dict, ↓isi_dic_int, ↓isi_dic_bool, ↓isi_dic_str, ↓isi_dic_list, ↓isi_dic_tuple, ↓isi_dic_dict, if_true, if_false, Bool.not_true, Bool.not_false, true_and, and_true, reduceCtorEq, Bool.true_eq_false, Bool.false_eq_true, ite_true, ite_false, ↓exAny, ↓isLst_l, Int.toNat_natCast, Int.reduceToNat, dVar_e, sPar_e, sPar3_e, sAug_e])))
--MI
theorem ex_nodup : ∀ ps : List (Nat × Int), ∃ Q : List (Nat × Int), Q.Nodup ∧ (∀ q, q ∈ Q ↔ q ∈ ps) ∧ Q.length ≤ ps.length
  | [] => ⟨[], List.nodup_nil, fun _ => Iff.rfl, Nat.le_refl _⟩
  | p :: ps => by
    obtain ⟨Q, h1, h2, h3⟩ := ex_nodup ps
    by_cases h : p ∈ Q
    · refine ⟨Q, h1, fun q => ?_, Nat.le_succ_of_le h3⟩
      rw [List.mem_cons, ← h2]
      exact ⟨.inr, fun z => z.elim (fun e => e ▸ h) id⟩
    · refine ⟨p :: Q, List.nodup_cons.mpr ⟨h, h1⟩, fun q => ?_, Nat.succ_le_succ h3⟩
      rw [List.mem_cons, List.mem_cons, h2]
theorem count_one {P : Nat → Bool} {n j0 : Nat} (h0 : j0 < n) (hP : P j0 = true) : (List.range n).countP P = 1 ↔ ∀ j, j < n → P j = true → j = j0 := by
  have mem : ∀ j, j ∈ (List.range n).filter P ↔ j < n ∧ P j = true := fun j => by rw [List.mem_filter, List.mem_range]
  have nd : ((List.range n).filter P).Nodup := List.Nodup.sublist List.filter_sublist List.nodup_range
  rw [List.countP_eq_length_filter]
  have m0 := (mem j0).mpr ⟨h0, hP⟩
  generalize (List.range n).filter P = L at mem nd m0 ⊢
  constructor
  · intro hl j h1 h2
    have hj := (mem j).mpr ⟨h1, h2⟩
    match L, hl with
    | [x], _ =>
      rw [List.mem_singleton.mp hj, List.mem_singleton.mp m0]
  · intro h
    match L, m0 with
    | x :: L, _ =>
      have hx : ∀ y ∈ x :: L, y = j0 := fun y hy => h y ((mem y).mp hy).1 ((mem y).mp hy).2
      match L with
      | [] => rfl
      | y :: L =>
        have e1 := hx x List.mem_cons_self
        have e2 := hx y (List.mem_cons_of_mem _ List.mem_cons_self)
        exact absurd (show x ∈ y :: L by rw [e1, ← e2]; exact List.mem_cons_self) (List.nodup_cons.mp nd).1
theorem soleB_iff {ss : List Sg} {p a : Nat} {b : Int} (hb : bestF ss a p = some b) : soleB ss a p b = true ↔ Sole ss p a b := by
  have one : ∀ s ∈ ss, hasB s a p = true → (shareN ss s b = 1 ↔ ∀ j, s.f ≤ j → j ≤ s.l → bestF ss j p = some b → j = a) := fun s hs h => by
    obtain ⟨h1, h2, h3⟩ := hasB_iff.mp h
    unfold shareN
    rw [h1, count_one (j0 := a - s.f) (by omega) (by rw [show s.f + (a - s.f) = a by omega, hb]; simp)]
    constructor
    · intro k j k1 k2 k3
      have := k (j - s.f) (by omega) (by rw [show s.f + (j - s.f) = j by omega, k3]; simp)
      omega
    · intro k j k1 k2
      have := k (s.f + j) (by omega) (by omega) (eq_of_beq k2)
      omega
  unfold soleB Sole
  rw [List.any_eq_true]
  constructor
  · rintro ⟨s, hs, h⟩
    obtain ⟨h1, h2⟩ := Bool.and_eq_true_iff.mp h
    obtain ⟨h3, h4⟩ := Bool.and_eq_true_iff.mp h2
    exact ⟨s, hs, h1, of_decide_eq_true h3, (one s hs h1).mp (of_decide_eq_true h4)⟩
  · rintro ⟨s, hs, h1, h2, h3⟩
    refine ⟨s, hs, ?_⟩
    rw [h1, decide_eq_true h2, decide_eq_true ((one s hs h1).mpr h3)]
    rfl
theorem ne_same {S : Sto} {Φ : KD} {d e : D} {n m : Nat} {p : PyData} (r : PyR S d p) (r2 : PyR S e p) (f : Fit n m p) (h : Φ S (.bl false)) (hn : n ≤ 64 := by decide) : dNe d e S Φ := ⟨p, p, r, r2, f.shaped hn, f.shaped hn, by rw [SeqAt.eqv_refl p f.can]; exact h⟩
theorem cells_at {B Z : Sto} {rs : List (List D)} {i : Nat} (h : i < rs.length) : (B ++ rs.map Cell.lst ++ Z)[B.length + i]? = some (.lst rs[i]) := by
  rw [mid_get (by rw [List.length_map]; exact h), List.getElem_map]
theorem cells_top {B Z : Sto} {rs : List (List D)} {c : Cell} {n : Nat} (h : rs.length = n) : (B ++ rs.map Cell.lst ++ [c] ++ Z)[B.length + n]? = some c := by
  have hl : (B ++ rs.map Cell.lst).length = B.length + n := by rw [List.length_append, List.length_map, h]
  rw [← hl, List.append_assoc, List.getElem?_append_right (Nat.le_refl _), Nat.sub_self]
  rfl
theorem pyxa_map {α : Type} {S : Sto} {f : α → D} {g : α → PyData} (h : ∀ x, PyX S (f x) (g x)) : ∀ xs : List α, PyXA S (xs.map f) (xs.map g)
  | [] => .nil
  | x :: xs => .cons (h x) (pyxa_map h xs)
theorem pyxa_mapM {α : Type} {S : Sto} {f : α → D} {g : α → PyData} : ∀ xs : List α, (∀ x ∈ xs, PyX S (f x) (g x)) → PyXA S (xs.map f) (xs.map g)
  | [], _ => .nil
  | x :: xs, h => .cons (h x List.mem_cons_self) (pyxa_mapM xs fun y hy => h y (List.mem_cons_of_mem _ hy))
/-- a list of lists of ints in cells, for a repr -/
theorem pyx_deep {S : Sto} {top a n : Nat} {R : Nat → List D} {P : Nat → List PyData} (e : S[top]? = some (.lst (ownsN a n))) (r : ∀ i, i < n → S[a + i]? = some (.lst (R i))) (py : ∀ i, i < n → PyXA S (R i) (P i)) : PyX S (.own top) (.list ((List.range n).map fun i => .list (P i))) :=
  .own e (pyxa_mapM _ fun i hi => .own (r i (List.mem_range.mp hi)) (py i (List.mem_range.mp hi)))
theorem ints_uniq : ∀ {ps qs : List Int}, ps.Pairwise (· < ·) → qs.Pairwise (· < ·) → (∀ k, k ∈ ps ↔ k ∈ qs) → ps = qs
  | [], [], _, _, _ => rfl
  | [], q :: qs, _, _, h => absurd ((h q).mpr List.mem_cons_self) List.not_mem_nil
  | p :: ps, [], _, _, h => absurd ((h p).mp List.mem_cons_self) List.not_mem_nil
  | p :: ps, q :: qs, hp, hq, h => by
    obtain ⟨h1, h2⟩ := List.pairwise_cons.mp hp
    obtain ⟨h3, h4⟩ := List.pairwise_cons.mp hq
    have e : p = q := by
      rcases List.mem_cons.mp ((h p).mp List.mem_cons_self) with e | e
      · exact e
      · rcases List.mem_cons.mp ((h q).mpr List.mem_cons_self) with f | f
        · exact f.symm
        · have := h1 q f
          have := h3 p e
          omega
    subst e
    rw [ints_uniq h2 h4 fun r => ⟨fun m => ?_, fun m => ?_⟩]
    · rcases List.mem_cons.mp ((h r).mp (List.mem_cons_of_mem _ m)) with e | e
      · have := h1 r m
        omega
      · exact e
    · rcases List.mem_cons.mp ((h r).mpr (List.mem_cons_of_mem _ m)) with e | e
      · have := h3 r m
        omega
      · exact e
/-- from lo on, n numbers -/
def fromN (lo n : Nat) : List Int := (List.range n).map fun (j : Nat) => (lo : Int) + (j : Int)
theorem fromN_rise (lo n : Nat) : (fromN lo n).Pairwise (· < ·) := by
  unfold fromN
  rw [List.pairwise_map]
  exact List.pairwise_lt_range.imp fun {a b} h => by omega
theorem fromN_mem {lo n : Nat} {z : Int} : z ∈ fromN lo n ↔ (lo : Int) ≤ z ∧ z < (lo : Int) + (n : Int) := by
  unfold fromN
  rw [List.mem_map]
  constructor
  · rintro ⟨j, hj, rfl⟩
    have := List.mem_range.mp hj
    omega
  · rintro ⟨h1, h2⟩
    exact ⟨(z - lo).toNat, List.mem_range.mpr (by omega), by omega⟩
theorem fromN_rng (lo n : Nat) : (fromN lo n).map D.int = rngD lo n := by
  unfold fromN rngD
  rw [List.map_map]
  rfl
theorem fromN_first (lo n : Nat) : atI ((fromN lo (n + 1)).map D.int) 0 = some (.int (lo : Int)) := by
  show atI _ ((0 : Nat) : Int) = _
  rw [at_nat, List.getElem?_map]
  unfold fromN
  rw [List.getElem?_map, List.getElem?_range (Nat.succ_pos _)]
  show some (D.int ((lo : Int) + ((0 : Nat) : Int))) = _
  rw [show ((0 : Nat) : Int) = 0 from rfl, Int.add_zero]
theorem fromN_last (lo n : Nat) : atI ((fromN lo (n + 1)).map D.int) (-1) = some (.int ((lo : Int) + (n : Int))) := by
  unfold fromN
  rw [List.range_succ, List.map_append, List.map_append]
  exact at_m1
theorem every_row {X : List (Nat × Nat)} {ss : List Sg} {r : List Nat} (h : r ∈ everyF X ss) : r.length = X.length ∧ ∀ v ∈ r, v ≤ mostW ss := rowsN_mem.mp (List.mem_filter.mp h).1
theorem every_few {X : List (Nat × Nat)} {ss : List Sg} (hX : X.length ≤ 5) (hm : mostW ss ≤ 3) : (everyF X ss).length ≤ 1024 := by
  refine Nat.le_trans (List.length_filter_le _ _) ?_
  rw [rowsN_count]
  exact Nat.le_trans (Nat.pow_le_pow_left (show mostW ss + 1 ≤ 4 by omega) _) (Nat.pow_le_pow_right (by decide) hX)
theorem most_three {ss : List Sg} (h : ∀ s ∈ ss, s.w ≤ 3) : mostW ss ≤ 3 := by
  rcases most_at ss with e | ⟨s, hs, e⟩
  · omega
  · have := h s hs
    omega
/-- the widths of a cell, rising -/
theorem vals_are {X : List (Nat × Nat)} {ss : List Sg} (sp : Spots X ss) (w0 : ∀ s ∈ ss, 0 ≤ s.w) (fl : ∀ s ∈ ss, s.f ≤ s.l) (hcf : conflD ss = .non) {k : Nat} (hk : k < X.length) {b : Int} (hb : bestF ss X[k].1 X[k].2 = some b) {qs : List Int} (hq : ∀ z, z ∈ qs ↔ z ∈ (everyF X ss).map fun r => ((r.getD k 0 : Nat) : Int)) (hr : qs.Pairwise (· < ·)) :
    ∃ lo n : Nat, ((lo + n : Nat) : Int) = b ∧ rangeD ss X[k].1 X[k].2 = .tup [.int (lo : Int), .int b] ∧ qs = fromN lo (n + 1) := by
  obtain ⟨s0, hs0, hb0, he0⟩ := spot_best sp (List.getElem_mem hk)
  have b0 : 0 ≤ b := by
    rw [hb] at he0
    have := Option.some.inj he0
    have := w0 s0 hs0
    omega
  have mem : ∀ z, z ∈ qs ↔ ∃ v : Nat, (v : Int) = z ∧ (soleB ss X[k].1 X[k].2 b = true → (v : Int) = b) ∧ (v : Int) ≤ b := fun z => by
    rw [hq, List.mem_map]
    constructor
    · rintro ⟨r, hr, rfl⟩
      refine ⟨r.getD k 0, rfl, ?_⟩
      rw [soleB_iff hb]
      refine (every_vals sp w0 fl hcf hk hb _).mp ⟨r, hr, ?_⟩
      rw [List.getD_eq_getElem?_getD, List.getElem?_eq_getElem (by rw [(every_row hr).1]; exact hk)]
      rfl
    · rintro ⟨v, rfl, h⟩
      rw [soleB_iff hb] at h
      obtain ⟨r, hr, e⟩ := (every_vals sp w0 fl hcf hk hb v).mpr h
      exact ⟨r, hr, by rw [List.getD_eq_getElem?_getD, e]; rfl⟩
  unfold rangeD
  rw [hb]
  dsimp only
  cases hs : soleB ss X[k].1 X[k].2 b with
  | true =>
    refine ⟨b.toNat, 0, by omega, by rw [if_pos rfl, Int.toNat_of_nonneg b0], ints_uniq hr (fromN_rise _ _) fun z => ?_⟩
    rw [mem, fromN_mem, hs]
    constructor
    · rintro ⟨v, rfl, h1, h2⟩
      have := h1 rfl
      omega
    · rintro ⟨h1, h2⟩
      exact ⟨b.toNat, by omega, fun _ => by omega, by omega⟩
  | false =>
    refine ⟨0, b.toNat, by omega, by rw [if_neg Bool.false_ne_true]; rfl, ints_uniq hr (fromN_rise _ _) fun z => ?_⟩
    rw [mem, fromN_mem, hs]
    constructor
    · rintro ⟨v, rfl, h1, h2⟩
      omega
    · rintro ⟨h1, h2⟩
      exact ⟨z.toNat, by omega, (fun h => nomatch h), by omega⟩
/-- the law's greatest widths half way -/
def gR (t : List Nat) (ss : List Sg) (i j k : Nat) : List D := (List.range (t.getD k 0)).map fun c => .int (if k < i ∨ (k = i ∧ c < j) then (bestF ss k c).getD 0 else 0)
def gS (t : List Nat) (ss : List Sg) (i j : Nat) : Sto := (List.range t.length).map fun k => Cell.lst (gR t ss i j k)
theorem gS_len (t : List Nat) (ss : List Sg) (i j : Nat) : (gS t ss i j).length = t.length := by
  unfold gS
  rw [List.length_map, List.length_range]
theorem gR_len (t : List Nat) (ss : List Sg) (i j k : Nat) : (gR t ss i j k).length = t.getD k 0 := by
  unfold gR
  rw [List.length_map, List.length_range]
theorem gS_at {t : List Nat} {ss : List Sg} {i j k : Nat} (h : k < t.length) : (gS t ss i j)[k]? = some (.lst (gR t ss i j k)) := by
  unfold gS
  rw [List.getElem?_map, List.getElem?_range h]
  rfl
theorem gS_get {t : List Nat} {ss : List Sg} {i j k : Nat} {A Z : Sto} (h : k < t.length) : (A ++ gS t ss i j ++ Z)[A.length + k]? = some (.lst (gR t ss i j k)) := by
  rw [List.append_assoc, List.getElem?_append_right (by omega), Nat.add_sub_cancel_left, List.getElem?_append_left (by rw [gS_len]; exact h), gS_at h]
theorem gR_at {t : List Nat} {ss : List Sg} {i j k c : Nat} (h : c < t.getD k 0) : (gR t ss i j k)[c]? = some (.int (if k < i ∨ (k = i ∧ c < j) then (bestF ss k c).getD 0 else 0)) := by
  unfold gR
  rw [List.getElem?_map, List.getElem?_range h]
  rfl
theorem gR_other {t : List Nat} {ss : List Sg} {i j j2 k : Nat} (h : k ≠ i) : gR t ss i j k = gR t ss i j2 k := by
  unfold gR
  refine List.map_congr_left fun c _ => ?_
  congr 2
  exact propext ⟨fun z => z.imp id fun z => absurd z.1 h, fun z => z.imp id fun z => absurd z.1 h⟩
theorem gR_set {t : List Nat} {ss : List Sg} {i j : Nat} (hj : j < t.getD i 0) : (gR t ss i j i).set j (.int ((bestF ss i j).getD 0)) = gR t ss i (j + 1) i := by
  apply List.ext_getElem?
  intro c
  by_cases hc : c < t.getD i 0
  · rw [gR_at hc]
    by_cases e : j = c
    · subst e
      rw [List.getElem?_set_self (by rw [gR_len]; exact hj), if_pos (.inr ⟨rfl, by omega⟩)]
    · rw [List.getElem?_set_ne e, gR_at hc]
      by_cases l : c < j
      · rw [if_pos (.inr ⟨rfl, l⟩), if_pos (.inr ⟨rfl, by omega⟩)]
      · rw [if_neg (by omega), if_neg (by omega)]
  · rw [List.getElem?_eq_none (by rw [List.length_set, gR_len]; omega), List.getElem?_eq_none (by rw [gR_len]; omega)]
theorem gS_row {t : List Nat} {ss : List Sg} {i j : Nat} (hi : i < t.length) : (gS t ss i j).set i (.lst (gR t ss i (j + 1) i)) = gS t ss i (j + 1) := by
  apply List.ext_getElem?
  intro k
  by_cases hk : k < t.length
  · rw [gS_at hk]
    by_cases e : i = k
    · subst e
      rw [List.getElem?_set_self (by rw [gS_len]; exact hi)]
    · rw [List.getElem?_set_ne e, gS_at hk, gR_other (fun z => e z.symm)]
  · rw [List.getElem?_eq_none (by rw [List.length_set, gS_len]; omega), List.getElem?_eq_none (by rw [gS_len]; omega)]
theorem gS_set {t : List Nat} {ss : List Sg} {i j : Nat} {A Z : Sto} (hi : i < t.length) (hj : j < t.getD i 0) : (A ++ gS t ss i j ++ Z).set (A.length + i) (.lst ((gR t ss i j i).set j (.int ((bestF ss i j).getD 0)))) = A ++ gS t ss i (j + 1) ++ Z := by
  rw [gR_set hj, List.append_assoc, List.set_append_right _ _ (by omega), Nat.add_sub_cancel_left, List.set_append_left _ _ (by rw [gS_len]; exact hi), gS_row hi, List.append_assoc]
theorem gS_skip {t : List Nat} {ss : List Sg} {i j : Nat} (h : bestF ss i j = none) : gS t ss i j = gS t ss i (j + 1) := by
  unfold gS
  refine List.map_congr_left fun k _ => ?_
  by_cases e : k = i
  · subst e
    congr 1
    unfold gR
    refine List.map_congr_left fun c _ => ?_
    by_cases ec : c = j
    · subst ec
      rw [h]
      simp
    · congr 2
      exact propext ⟨fun z => z.imp id fun z => ⟨z.1, by omega⟩, fun z => z.imp id fun z => ⟨z.1, by omega⟩⟩
  · rw [gR_other e]
theorem gS_line {t : List Nat} {ss : List Sg} {i : Nat} : gS t ss i (t.getD i 0) = gS t ss (i + 1) 0 := by
  unfold gS
  refine List.map_congr_left fun k _ => ?_
  congr 1
  unfold gR
  refine List.map_congr_left fun c hc => ?_
  have := List.mem_range.mp hc
  congr 2
  refine propext ⟨fun z => ?_, fun z => ?_⟩
  · rcases z with z | ⟨rfl, z⟩
    · exact .inl (by omega)
    · exact .inl (by omega)
  · rcases z with z | ⟨_, z⟩
    · by_cases e : k = i
      · subst e
        exact .inr ⟨rfl, this⟩
      · exact .inl (by omega)
    · exact absurd z (Nat.not_lt_zero _)
theorem gS_end (t : List Nat) (ss : List Sg) : gS t ss t.length 0 = (rows0F t ss).map Cell.lst := by
  unfold gS rows0F
  rw [List.map_map]
  refine List.map_congr_left fun k hk => ?_
  show Cell.lst _ = Cell.lst _
  congr 1
  unfold gR row0F
  refine List.map_congr_left fun c _ => ?_
  rw [if_pos (.inl (List.mem_range.mp hk))]
theorem gS_zero (t : List Nat) (ss : List Sg) : gS t ss 0 0 = t.map fun n => Cell.lst (List.replicate n (.int 0)) := by
  apply List.ext_getElem?
  intro k
  by_cases hk : k < t.length
  · rw [gS_at hk, List.getElem?_map, List.getElem?_eq_getElem hk, Option.map_some]
    congr 2
    unfold gR
    rw [List.eq_replicate_iff]
    refine ⟨by rw [List.length_map, List.length_range, List.getD_eq_getElem?_getD, List.getElem?_eq_getElem hk, Option.getD_some], fun b hb => ?_⟩
    obtain ⟨c, _, rfl⟩ := List.mem_map.mp hb
    rw [if_neg (by omega)]
  · rw [List.getElem?_eq_none (by rw [gS_len]; omega), List.getElem?_eq_none (by rw [List.length_map]; omega)]
/-- a cell of no sight has no bound -/
theorem spot_no {X : List (Nat × Nat)} {ss : List Sg} (sp : Spots X ss) {i c : Nat} (h : (i, c) ∉ X) : bestF ss i c = none := by
  cases hb : bestF ss i c with
  | none => rfl
  | some v =>
    obtain ⟨⟨s, hs, h1, _⟩, _⟩ := best_is.mp hb
    exact absurd ((sp.mem (i, c)).mpr ⟨s, hs, h1⟩) h
def natP (r : List Nat) : PyData := .list (r.map fun (n : Nat) => PyData.int (n : Int))
theorem py_rows {S : Sto} (E : List (List Nat)) : PyR S (.lst (E.map natsD)) (.list (E.map natP)) := .lst (pyra_map (g := natP) (fun r => .lst (pyra_map (g := fun (n : Nat) => PyData.int (n : Int)) (fun n => .int _) r)) E)
theorem fit_rows {E : List (List Nat)} (h : E.length ≤ 1024) (hr : ∀ r ∈ E, r.length ≤ 5 ∧ ∀ v ∈ r, v ≤ 3) : Fit 2 40000 (.list (E.map natP)) := (fit_list (n := 1) (m := 2 + 5 * (3 + 2)) (l := 1024) (fun p hp => by
  obtain ⟨r, hm, rfl⟩ := List.mem_map.mp hp
  exact fit_list (n := 0) (m := 3) (l := 5) (fun p hp => by
    obtain ⟨v, hv, rfl⟩ := List.mem_map.mp hp
    have := (hr r hm).2 v hv
    exact fit_int (k := 2) (by omega)) (by rw [List.length_map]; exact (hr r hm).1)) (by rw [List.length_map]; exact h)).mono (by decide) (by decide)
theorem fit_nil : Fit 1 100 (.list []) := (fit_list (n := 0) (m := 4) (l := 2) (ps := []) (by simp) (by simp)).mono (by decide) (by decide)
theorem rows_ne {S : Sto} {Φ : KD} {E : List (List Nat)} (h : E.length ≤ 1024) (hr : ∀ r ∈ E, r.length ≤ 5 ∧ ∀ v ∈ r, v ≤ 3) (ne : E ≠ []) (q : Φ S (.bl true)) : dNe (.lst (E.map natsD)) (.lst []) S Φ :=
  ⟨_, .list [], py_rows E, .lst .nil, (fit_rows h hr).shaped, fit_nil.shaped, by
    rw [eqv_nil]
    cases E with
    | nil => exact absurd rfl ne
    | cons a as => exact q⟩
theorem rows_eq {S : Sto} {Φ : KD} {E : List (List Nat)} (h : E.length ≤ 1024) (hr : ∀ r ∈ E, r.length ≤ 5 ∧ ∀ v ∈ r, v ≤ 3) (ne : E ≠ []) (q : Φ S (.bl false)) : dEq (.lst (E.map natsD)) (.lst []) S Φ :=
  ⟨_, .list [], py_rows E, .lst .nil, (fit_rows h hr).shaped, fit_nil.shaped, by
    rw [eqv_nil]
    cases E with
    | nil => exact absurd rfl ne
    | cons a as => exact q⟩
theorem idx_spots {S : Sto} {Φ : KD} {X : List (Nat × Nat)} (nd : X.Nodup) (hX : ∀ x ∈ X, x.1 < 100 ∧ x.2 < 100) (hl : X.length ≤ 10) {k : Nat} (hk : k < X.length) {a c : Nat} (ea : X[k] = (a, c)) (q : Φ S (.int (k : Nat))) : mIdxE (.lst (X.map spD)) [.tup [.int (a : Int), .int (c : Int)]] S Φ := by
  have hm := List.getElem_mem hk
  rw [ea] at hm
  refine ⟨_, pairP (a, c), X.map pairP, k, pairP X[k], rfl, py_spots X, .tup (.cons (.int _) (.cons (.int _) .nil)), (fit_spots hX hl).shaped, (fit_pairP (hX _ hm)).shaped, depth_pairP _, by rw [List.getElem?_map, List.getElem?_eq_getElem hk]; rfl, by rw [eqv_pairP, ea, decide_eq_true rfl], fun m q' hlt e => ?_, q⟩
  rw [List.getElem?_map, List.getElem?_eq_getElem (by omega), Option.map_some] at e
  have e := Option.some.inj e
  rw [← e, eqv_pairP, decide_eq_false_iff_not]
  intro z
  rw [← ea] at z
  exact absurd ((List.getElem_inj nd).mp z) (by omega)
theorem range_py {ss : List Sg} {i c : Nat} (hb : ∀ v, bestF ss i c = some v → v.natAbs < 10 ^ 40) : ∃ p, (∀ S, PyR S (rangeD ss i c) p) ∧ (∀ S, PyX S (rangeD ss i c) p) ∧ Fit 1 100 p ∧ ∀ z, rangeD ss i c ≠ .int z := by
  unfold rangeD
  cases h : bestF ss i c with
  | none => exact ⟨.none, fun S => .non, fun S => .non, Fit.mono (n := 0) (m := 4) ⟨by rw [PyData.canLay0], by rw [PyData.showable], by rw [PyData.hasDict], by rw [PyData.depth] <;> omega, by rw [PyData.shown_none]; decide +kernel, by rw [PyData.shown_none]; decide⟩ (by decide) (by decide), fun z e => nomatch e⟩
  | some b =>
    dsimp only
    have b1 : Fit 0 41 (.int b) := fit_int (k := 40) (hb b h)
    have b0 : Fit 0 41 (.int 0) := fit_int (k := 40) (by decide)
    by_cases hs : soleB ss i c b = true
    · rw [if_pos hs]
      exact ⟨.tuple [.int b, .int b], fun S => .tup (.cons (.int _) (.cons (.int _) .nil)), fun S => .tup (.cons (.int _) (.cons (.int _) .nil)), (fit_tup (n := 0) (m := 41) (l := 2) (allc b1 (allc b1 all0)) (Nat.le_refl 2)).mono (by decide) (by decide), fun z e => nomatch e⟩
    · rw [if_neg hs]
      exact ⟨.tuple [.int 0, .int b], fun S => .tup (.cons (.int _) (.cons (.int _) .nil)), fun S => .tup (.cons (.int _) (.cons (.int _) .nil)), (fit_tup (n := 0) (m := 41) (l := 2) (allc b0 (allc b1 all0)) (Nat.le_refl 2)).mono (by decide) (by decide), fun z e => nomatch e⟩
theorem best_in {t : List Nat} {ss : List Sg} (oks : SgsOk t ss) {i c : Nat} {v : Int} (h : bestF ss i c = some v) : 0 ≤ v ∧ v ≤ MOST := by
  rcases best_has ss none i c v h with z | ⟨s, hs, _, rfl⟩
  · cases z
  · exact ⟨(oks.at_ s hs).w0, (oks.at_ s hs).w1⟩
end DL
namespace DL
open PySem PySem.Spec PyProof.Rows L2
local macro_rules | `(tactic| walk_at "dl") => `(tactic| ((try simp only [gstart, gwipe, List.set_set, List.map_cons, List.map_nil, List.length_cons, List.length_nil, rep_0, rep_s, List.cons_append, List.nil_append, List.set_cons_zero, List.set_cons_succ, Nat.reduceAdd, Nat.reduceSub, Nat.zero_add, Nat.add_zero]); (try simp only [↓dv0, ↓dv1, ↓dv2, ↓dv3, ↓dv4, ↓dv5, ↓dv6, ↓dv7, ↓dv8, ↓dv9, ↓dv10, ↓dv11, ↓dv12, ↓dv13, ↓dv14, ↓dv15, ↓dv16, ↓dv17, ↓dv18, ↓dv19, ↓dv20, ↓dv21, ↓dv22, ↓dv23, ↓dv24, ↓dv25, ↓dv26, ↓dv27, ↓dv28, ↓dv29, ↓dv30, ↓dv31, ↓dv32, ↓dv33, ↓dv34, ↓dv35, ↓dv36, ↓dv37, ↓dv38, ↓dv39, ↓nm0, ↓nm1, ↓nm2, ↓nm3, ↓nm4, ↓nm5, ↓nm6, ↓nm7, ↓nm8, ↓nm9, ↓nm10, ↓nm11, ↓nm12, ↓nm13, ↓nm14, ↓nm15, ↓nm16, ↓nm17, ↓nm18, ↓nm19, ↓nm20, ↓nm21, ↓nm22, ↓nm23, ↓nm24, ↓nm25, ↓nm26, ↓nm27, ↓nm28, ↓nm29, ↓nm30, ↓nm31, ↓nm32, ↓nm33, ↓nm34, ↓nm35, ↓nm36, ↓nm37, ↓nm38, ↓nm39, ↓sPar_n, ↓sPar3_n, ↓sAug_n, ↓reduceIte, List.set_set, ↓sNext_e, ↓sSeq_e, ↓sBrk_e, ↓sCnt_e, ↓sDrop_e, ↓sRet_e, ↓sRetN_e, ↓sIf_e, ↓sAsg_e, ↓sRaise_e, ↓nmG_e, ↓tupG_e, ↓gsNil_e, ↓gsCons_e, ↓subG_e, ↓dC_e, ↓dOp_e, ↓dUn_e, ↓dChain_e, ↓bOf_e, ↓bAnd_e, ↓bOr_e, ↓bNot_e, ↓bYes_e, ↓dAnd_e, ↓dOr_e, ↓dNot_e, ↓dIf_e, ↓lNil_e, ↓lCons_e, ↓dLst_e, ↓dDic0_e, ↓dDic1_e, ↓dLenSetG_e, dIsB_b, ↓dLstO_e, ↓dTup_e, ↓dCB_e, ↓dCall_e, ↓dCallK_e, ↓oNone_e, ↓oSome_e, ↓dSl_e, ↓dBM_e, ↓dBM0_e, ↓dFz_e, ↓dFz2_e, ↓d2_e, ↓dLone_e, ↓lStar_e, ↓dCallA_e, ↓dMakeA_e, ↓dMakeV_e, ↓dMethA_e, ↓dCMethA_e, ↓dPropA_e, ↓dFld_e, ↓sFldS_e, ↓dFzI_e, ↓fzID_o, ↓dM1_e, ↓dM0_e, ↓dRev_e, ↓mSplit_s, ↓mUpper_s, ↓exStr, ↓exZ, ↓cStrI_i, ↓cIntS_s, ↓iStrD_e, ↓dEqF_s, ↓dNeF_s, ↓dEqF_i, ↓dNeF_i, ↓dSign_s, ↓sRaiseI_e, ↓dXFld_e, ↓mPop_e, ↓dAddO_l, ↓dAddO_o, ↓dMk0_e, ↓sKeep_e, ↓sTryH_e, ↓dCVal_e, ↓dConI_e, ↓cLen_s, ↓dIx_s, ↓dSlS_s, ↓dAdd_s, ↓cTup_l, ↓pkP_e, ↓pkS_e, ↓lstG_e, ↓asI_i, ↓iSeq_e, ↓iTupD_e, ↓iRg1_e, ↓iRg2_e, ↓iZipD_e, iZrD_e, ↓iEnumD_e, ↓sFor_e, ↓dLc_e, ↓finF_e, ↓finO_e, ↓fzD_l, ↓fzD_i, ↓fzD_o, ↓fzD2_o, ↓dSetO_e, ↓mAppend_e, ↓mClear_e, ↓mReverse_e, List.map_cons, List.map_nil, List.length_cons, List.length_nil, rep_0, rep_s, List.cons_append, List.nil_append, List.getElem?_cons_zero, List.getElem?_cons_succ, List.set_cons_zero, List.set_cons_succ, Nat.reduceAdd, Nat.reduceSub, Nat.zero_add, Nat.add_zero, ↓exSS, ↓exB, ↓exI, ↓ex1, ↓ex2, ↓ex3, ↓exI1, ↓exI2, ↓exT, ↓exC, ↓exAs, ↓dAdd_i, ↓dAddI_i, ↓dSubI_i, ↓dLRg_e, ↓dIsiT_e, ↓dLenSet_e, ↓bChain3_e, ↓dLRg2_e, ↓iRg3_e, ↓dLc2_e, ↓dSlT_t, dAddT_t, ↓dNewK_e, ↓dDis1_e, ↓sDkp_e, ↓dDGet_e, ↓dDGet2_e, ↓dLVals_e, ↓kD_ex_i, ↓dSS_e, ↓dST_e, ↓dSI_e, ↓lsG_e, ↓dMulI_i, ↓dNew_e, ↓sDct_e, ↓dMulO_l, ↓dLRgO_e, ↓dAdd_l, ↓dSub_i, ↓dMul_i, ↓dMul_l, ↓dMod_i, ↓dDiv_i, ↓dPow_i, ↓dLt_i, ↓dLe_i, ↓dGt_i, ↓dGe_i, ↓uNeg_i, ↓cMax2_i, ↓cMin2_i, ↓cAbs_i, ↓cInt_i, ↓cInt_b, ↓cLen_l, ↓cLen_q, ↓cLen_t, ↓cList_l, ↓cList_q, ↓cList_t, ↓cListO_l, ↓cListO_t, ↓dIx_l, ↓dIx_q, ↓dIx_t, ↓dIx_o', ↓exS, ↓exL, at_1, at_2, at_3, at_4, ix30, ix31, ix32, ↓dSlL_l, ↓dSlL_q, ↓asQ_l, ↓asL_l, at_0, ↓isi_non_int, ↓isi_non_bool, ↓isi_non_str, ↓isi_non_list, ↓isi_non_tuple, ↓isi_non_dict, ↓isi_bl_int, ↓isi_bl_bool, ↓isi_bl_str, ↓isi_bl_list, ↓isi_bl_tuple, ↓isi_bl_dict, ↓isi_int_int, ↓isi_int_bool, ↓isi_int_str, ↓isi_int_list, ↓isi_int_tuple, ↓isi_int_dict, ↓isi_str_int, ↓isi_str_bool, ↓isi_str_str, ↓isi_str_list, ↓isi_str_tuple, ↓isi_str_dict, ↓isi_lst_int, ↓isi_lst_bool, ↓isi_lst_str, ↓isi_lst_list, ↓isi_lst_tuple, ↓isi_lst_dict, ↓isi_sq_int, ↓isi_sq_bool, ↓isi_sq_str, ↓isi_sq_list, ↓isi_sq_tuple, ↓isi_sq_dict, ↓isi_tup_int, ↓isi_tup_bool, ↓isi_tup_str, ↓isi_tup_list, ↓isi_tup_tuple, ↓isi_tup_dict, ↓isi_dic_int, ↓isi_dic_bool, ↓isi_dic_str, ↓isi_dic_list, ↓isi_dic_tuple, ↓isi_dic_dict, if_true, if_false, Bool.not_true, Bool.not_false, true_and, and_true, reduceCtorEq, Bool.true_eq_false, Bool.false_eq_true, ite_true, ite_false, ↓exAny, ↓isLst_l, Int.toNat_natCast, Int.reduceToNat, dVar_e, sPar_e, sPar3_e, sAug_e])))
local macro_rules | `(tactic| walk_at "dls") => `(tactic| ((try simp only [gstart, gwipe, List.set_set, List.map_cons, List.map_nil, List.length_cons, List.length_nil, rep_0, rep_s, List.cons_append, List.nil_append, List.set_cons_zero, List.set_cons_succ, Nat.reduceAdd, Nat.reduceSub, Nat.zero_add, Nat.add_zero]); (try simp only [*, ↓dv0, ↓dv1, ↓dv2, ↓dv3, ↓dv4, ↓dv5, ↓dv6, ↓dv7, ↓dv8, ↓dv9, ↓dv10, ↓dv11, ↓dv12, ↓dv13, ↓dv14, ↓dv15, ↓dv16, ↓dv17, ↓dv18, ↓dv19, ↓dv20, ↓dv21, ↓dv22, ↓dv23, ↓dv24, ↓dv25, ↓dv26, ↓dv27, ↓dv28, ↓dv29, ↓dv30, ↓dv31, ↓dv32, ↓dv33, ↓dv34, ↓dv35, ↓dv36, ↓dv37, ↓dv38, ↓dv39, ↓nm0, ↓nm1, ↓nm2, ↓nm3, ↓nm4, ↓nm5, ↓nm6, ↓nm7, ↓nm8, ↓nm9, ↓nm10, ↓nm11, ↓nm12, ↓nm13, ↓nm14, ↓nm15, ↓nm16, ↓nm17, ↓nm18, ↓nm19, ↓nm20, ↓nm21, ↓nm22, ↓nm23, ↓nm24, ↓nm25, ↓nm26, ↓nm27, ↓nm28, ↓nm29, ↓nm30, ↓nm31, ↓nm32, ↓nm33, ↓nm34, ↓nm35, ↓nm36, ↓nm37, ↓nm38, ↓nm39, ↓sPar_n, ↓sPar3_n, ↓sAug_n, ↓reduceIte, List.set_set, ↓sNext_e, ↓sSeq_e, ↓sBrk_e, ↓sCnt_e, ↓sDrop_e, ↓sRet_e, ↓sRetN_e, ↓sIf_e, ↓sAsg_e, ↓sRaise_e, ↓nmG_e, ↓tupG_e, ↓gsNil_e, ↓gsCons_e, ↓subG_e, ↓dC_e, ↓dOp_e, ↓dUn_e, ↓dChain_e, ↓bOf_e, ↓bAnd_e, ↓bOr_e, ↓bNot_e, ↓bYes_e, ↓dAnd_e, ↓dOr_e, ↓dNot_e, ↓dIf_e, ↓lNil_e, ↓lCons_e, ↓dLst_e, ↓dDic0_e, ↓dDic1_e, ↓dLenSetG_e, dIsB_b, ↓dLstO_e, ↓dTup_e, ↓dCB_e, ↓dCall_e, ↓dCallK_e, ↓oNone_e, ↓oSome_e, ↓dSl_e, ↓dBM_e, ↓dBM0_e, ↓dFz_e, ↓dFz2_e, ↓d2_e, ↓dLone_e, ↓lStar_e, ↓dCallA_e, ↓dMakeA_e, ↓dMakeV_e, ↓dMethA_e, ↓dCMethA_e, ↓dPropA_e, ↓dFld_e, ↓sFldS_e, ↓dFzI_e, ↓fzID_o, ↓dM1_e, ↓dM0_e, ↓dRev_e, ↓mSplit_s, ↓mUpper_s, ↓exStr, ↓exZ, ↓cStrI_i, ↓cIntS_s, ↓iStrD_e, ↓dEqF_s, ↓dNeF_s, ↓dEqF_i, ↓dNeF_i, ↓dSign_s, ↓sRaiseI_e, ↓dXFld_e, ↓mPop_e, ↓dAddO_l, ↓dAddO_o, ↓dMk0_e, ↓sKeep_e, ↓sTryH_e, ↓dCVal_e, ↓dConI_e, ↓cLen_s, ↓dIx_s, ↓dSlS_s, ↓dAdd_s, ↓cTup_l, ↓pkP_e, ↓pkS_e, ↓lstG_e, ↓asI_i, ↓iSeq_e, ↓iTupD_e, ↓iRg1_e, ↓iRg2_e, ↓iZipD_e, iZrD_e, ↓iEnumD_e, ↓sFor_e, ↓dLc_e, ↓finF_e, ↓finO_e, ↓fzD_l, ↓fzD_i, ↓fzD_o, ↓fzD2_o, ↓dSetO_e, ↓mAppend_e, ↓mClear_e, ↓mReverse_e, List.map_cons, List.map_nil, List.length_cons, List.length_nil, rep_0, rep_s, List.cons_append, List.nil_append, List.getElem?_cons_zero, List.getElem?_cons_succ, List.set_cons_zero, List.set_cons_succ, Nat.reduceAdd, Nat.reduceSub, Nat.zero_add, Nat.add_zero, ↓exSS, ↓exB, ↓exI, ↓ex1, ↓ex2, ↓ex3, ↓exI1, ↓exI2, ↓exT, ↓exC, ↓exAs, ↓dAdd_i, ↓dAddI_i, ↓dSubI_i, ↓dLRg_e, ↓dIsiT_e, ↓dLenSet_e, ↓bChain3_e, ↓dLRg2_e, ↓iRg3_e, ↓dLc2_e, ↓dSlT_t, dAddT_t, ↓dNewK_e, ↓dDis1_e, ↓sDkp_e, ↓dDGet_e, ↓dDGet2_e, ↓dLVals_e, ↓kD_ex_i, ↓dSS_e, ↓dST_e, ↓dSI_e, ↓lsG_e, ↓dMulI_i, ↓dNew_e, ↓sDct_e, ↓dMulO_l, ↓dLRgO_e, ↓dAdd_l, ↓dSub_i, ↓dMul_i, ↓dMul_l, ↓dMod_i, ↓dDiv_i, ↓dPow_i, ↓dLt_i, ↓dLe_i, ↓dGt_i, ↓dGe_i, ↓uNeg_i, ↓cMax2_i, ↓cMin2_i, ↓cAbs_i, ↓cInt_i, ↓cInt_b, ↓cLen_l, ↓cLen_q, ↓cLen_t, ↓cList_l, ↓cList_q, ↓cList_t, ↓cListO_l, ↓cListO_t, ↓dIx_l, ↓dIx_q, ↓dIx_t, ↓dIx_o', ↓exS, ↓exL, at_1, at_2, at_3, at_4, ix30, ix31, ix32, ↓dSlL_l, ↓dSlL_q, ↓asQ_l, ↓asL_l, at_0, ↓isi_non_int, ↓isi_non_bool, ↓isi_non_str, ↓isi_non_list, ↓isi_non_tuple, ↓isi_non_dict, ↓isi_bl_int, ↓isi_bl_bool, ↓isi_bl_str, ↓isi_bl_list, ↓isi_bl_tuple, ↓isi_bl_dict, ↓isi_int_int, ↓isi_int_bool, ↓isi_int_str, ↓isi_int_list, ↓isi_int_tuple, ↓isi_int_dict, ↓isi_str_int, ↓isi_str_bool, ↓isi_str_str, ↓isi_str_list, ↓isi_str_tuple, ↓isi_str_dict, ↓isi_lst_int, ↓isi_lst_bool, ↓isi_lst_str, ↓isi_lst_list, ↓isi_lst_tuple, ↓isi_lst_dict, ↓isi_sq_int, ↓isi_sq_bool, ↓isi_sq_str, ↓isi_sq_list, ↓isi_sq_tuple, ↓isi_sq_dict, ↓isi_tup_int, ↓isi_tup_bool, ↓isi_tup_str, ↓isi_tup_list, ↓isi_tup_tuple, ↓isi_tup_dict, ↓isi_dic_int, ↓isi_dic_bool, ↓isi_dic_str, ↓isi_dic_list, ↓isi_dic_tuple, ↓isi_dic_dict, if_true, if_false, Bool.not_true, Bool.not_false, true_and, and_true, reduceCtorEq, Bool.true_eq_false, Bool.false_eq_true, ite_true, ite_false, ↓exAny, ↓isLst_l, Int.toNat_natCast, Int.reduceToNat, dVar_e, sPar_e, sPar3_e, sAug_e])))
--MI
theorem fit_reason : Fit 0 40 (.str (Str.ofString "reason")) := ⟨by rw [PyData.canLay0]; decide +kernel, by rw [PyData.showable], by rw [PyData.hasDict], by rw [PyData.depth] <;> omega, by rw [PyData.shown_str]; decide +kernel, by rw [PyData.shown_str]; decide +kernel⟩
theorem conf_py {t : List Nat} {ss : List Sg} (oks : SgsOk t ss) (h60 : t.length ≤ 60) (hc : conflD ss ≠ .non) : ∃ p, (∀ S, PyR S (conflD ss) p) ∧ Fit 2 2000 p := by
  cases h : ss.findIdx? (badB ss) with
  | none =>
    refine absurd ?_ hc
    unfold conflD
    rw [h]
  | some k =>
    obtain ⟨hk, _, _⟩ := List.findIdx?_eq_some_iff_getElem.mp h
    have hgd : ss.getD k ⟨0, 0, 0, 0⟩ = ss[k] := by rw [List.getD_eq_getElem?_getD, List.getElem?_eq_getElem hk, Option.getD_some]
    have so := oks.at_ _ (List.getElem_mem hk)
    have h40 := oks.hi
    have e : conflD ss = .tup [.int (k : Nat), .lst ((List.range (ss[k].l + 1 - ss[k].f)).map fun j => .int (((lessF ss (ss[k].f + j) ss[k].c ss[k].w).getD 0 : Nat) : Int))] := by
      unfold conflD
      rw [h]
      dsimp only
      rw [hgd]
    have few : ∀ j, (lessF ss (ss[k].f + j) ss[k].c ss[k].w).getD 0 < 100 := fun j => by
      cases hl : lessF ss (ss[k].f + j) ss[k].c ss[k].w with
      | none => decide
      | some q =>
        have := (List.findIdx?_eq_some_iff_getElem.mp hl).1
        show q < 100
        omega
    rw [e]
    refine ⟨.tuple [.int (k : Nat), .list ((List.range (ss[k].l + 1 - ss[k].f)).map fun j => .int (((lessF ss (ss[k].f + j) ss[k].c ss[k].w).getD 0 : Nat) : Int))], fun S => .tup (.cons (.int _) (.cons (.lst (pyra_map (g := fun j => PyData.int (((lessF ss (ss[k].f + j) ss[k].c ss[k].w).getD 0 : Nat) : Int)) (fun j => .int _) _)) .nil)), ?_⟩
    have fl := fit_list (n := 0) (m := 3) (l := 60) (ps := (List.range (ss[k].l + 1 - ss[k].f)).map fun j => PyData.int (((lessF ss (ss[k].f + j) ss[k].c ss[k].w).getD 0 : Nat) : Int)) (fun p hp => by
      obtain ⟨j, _, rfl⟩ := List.mem_map.mp hp
      have := few j
      exact fit_int (k := 2) (by omega)) (by rw [List.length_map, List.length_range]; have := so.l; omega)
    have fk : Fit 0 3 (.int (k : Nat)) := fit_int (k := 2) (by omega)
    exact (fit_tup (n := 1) (m := 900) (l := 2) (allc (fk.mono (by decide) (by decide)) (allc (fl.mono (by decide) (by decide)) all0)) (Nat.le_refl 2)).mono (by decide) (by decide)
theorem p__law_right (C C1 C2 CN : Addr) : Rets sp__law_right (T__law_right C C1 C2 CN) N__law_right := by
  rintro _ S Φ Ψ ⟨t, ss, X, rfl, ok, oks, h8, w3, sp, q⟩
  unfold T__law_right
  have h60 := ok.hi
  have w0 : ∀ s ∈ ss, 0 ≤ s.w := fun s hs => (oks.at_ s hs).w0
  have fl : ∀ s ∈ ss, s.f ≤ s.l := fun s hs => (oks.at_ s hs).fl
  refine seqJ (fun Γ S' => S' = S ++ [.ins C (seeF t ss)] ∧ Γ = [some (natsD t), some (sgsD ss), some (.lst (X.map spD)), some (.own S.length), some (.lst ((everyF X ss).map natsD)), none, none, none, none, none, none, none, none, none, none]) (fun N hN => ?_) fun Γ S' hΓ => ?_
  · walk_at "dl"
    refine ⟨S.length, _, _, t, ss, rfl, get_at, rfl, ok, rfl, oks, ?_⟩
    rw [set_at]
    exact ⟨rfl, X, ss, rfl, h8, fun s hs => ⟨w0 s hs, w3 s hs, fl s hs⟩, sp, by decide, hN _ _ ⟨rfl, rfl⟩⟩
  obtain ⟨rfl, rfl⟩ := hΓ
  have e : (S ++ [.ins C (seeF t ss)])[S.length]? = some (.ins C (seeF t ss)) := get_at
  obtain ⟨S0, hS0⟩ : ∃ S0, S0 = S ++ [.ins C (seeF t ss)] := ⟨_, rfl⟩
  rw [← hS0] at e ⊢
  have eI : ∀ Z, asI (S0 ++ Z) (.own S.length) = some (C, seeF t ss) := fun Z => asI_app (asI_own e)
  have eI0 := eI []
  rw [List.append_nil] at eI0
  refine seqJ (fun Γ S' => S' = S0 ∧ Γ = [some (natsD t), some (sgsD ss), some (.lst (X.map spD)), some (.own S.length), some (.lst ((everyF X ss).map natsD)), some (conflD ss), none, none, none, none, none, none, none, none, none]) (fun N hN => ?_) fun Γ S' hΓ => ?_
  · walk_at "dl"
    exact ⟨_, eI0, rfl, _, t, ss, rfl, eI0, ok, oks, hN _ _ ⟨rfl, rfl⟩⟩
  obtain ⟨rfl, rfl⟩ := hΓ
  walk_at "dl"
  rcases non_or ss with hc | hc
  · have ne0 : everyF X ss ≠ [] := fun z => (every_nil sp w0 fl).mp z hc
    have m3 := most_three w3
    have few := every_few sp.hi m3
    have rok : ∀ r ∈ everyF X ss, r.length ≤ 5 ∧ ∀ v ∈ r, v ≤ 3 := fun r hr => ⟨by rw [(every_row hr).1]; exact sp.hi, fun v hv => Nat.le_trans ((every_row hr).2 v hv) m3⟩
    rw [hc]
    refine ⟨small (by decide), rows_ne few rok ne0 ⟨rfl, _, rfl, ?_⟩⟩
    rw [if_neg (by decide)]
    refine ⟨small (by decide), rows_eq few rok ne0 ⟨_, rfl, ?_⟩⟩
    rw [if_neg (by decide)]
    have l1 : S'.length = S.length + 1 := by rw [hS0, List.length_append, List.length_singleton]
    refine lc_l (ds := t.map fun (n : Nat) => D.int (n : Int)) (fun i acc S2 => S2 = S' ++ (t.take i).map (fun n => Cell.lst (List.replicate n (.int 0))) ∧ acc = ownsN S'.length i) (small (by rw [List.length_map]; omega)) ⟨by simp, rfl⟩ (fun i acc S2 hi hp => ?_) fun acc S2 hp => ?_
    · obtain ⟨rfl, rfl⟩ := hp
      rw [List.length_map] at hi
      rw [List.getElem_map]
      walk_at "dl"
      have h11 := ok.at_ _ (List.getElem_mem hi)
      have hl : (S' ++ (t.take i).map (fun n => Cell.lst (List.replicate n (D.int 0)))).length = S'.length + i := by
        rw [List.length_append, List.length_map, List.length_take]
        omega
      rw [hl, rep_flat, ownsN_succ]
      refine ⟨small (by decide), by omega, by omega, ?_, rfl⟩
      rw [List.take_succ_eq_append_getElem hi, List.map_append, List.append_assoc]
      rfl
    obtain ⟨rfl, rfl⟩ := hp
    rw [List.length_map, List.take_length, finO_e, ← gS_zero t ss, List.length_append, gS_len]
    refine for_e t (fun (n : Nat) => D.int (n : Int)) (fun i Γ S2 => S2 = S' ++ gS t ss i 0 ++ [.lst (ownsN S'.length t.length)] ∧ ∃ o6 o8 o9 o10 o11 o12 o13 o14 : Option D, Γ = [some (natsD t), some (sgsD ss), some (.lst (X.map spD)), some (.own S.length), some (.lst ((everyF X ss).map natsD)), some .non, o6, some (.own (S'.length + t.length)), o8, o9, o10, o11, o12, o13, o14]) ⟨rfl, _, _, _, _, _, _, _, _, rfl⟩ (fun i Γ' S2 hi hp => ?_) fun Γ' S2 hp => ?_
    · obtain ⟨rfl, o6, o8, o9, o10, o11, o12, o13, o14, rfl⟩ := hp
      have egt : t.getD i 0 = t[i] := by rw [List.getD_eq_getElem?_getD, List.getElem?_eq_getElem hi, Option.getD_some]
      have h11 := ok.at_ _ (List.getElem_mem hi)
      rw [← egt] at h11 ⊢
      walk_at "dl"
      refine ⟨by omega, by omega, ?_⟩
      refine for_r0 (n := t.getD i 0) (fun j Γ S2 => S2 = S' ++ gS t ss i j ++ [.lst (ownsN S'.length t.length)] ∧ ∃ o6 o9 o10 o11 o12 o14 : Option D, Γ = [some (natsD t), some (sgsD ss), some (.lst (X.map spD)), some (.own S.length), some (.lst ((everyF X ss).map natsD)), some .non, o6, some (.own (S'.length + t.length)), some (.int (i : Nat)), o9, o10, o11, o12, some (.int (t.getD i 0 : Nat)), o14]) ⟨rfl, _, _, _, _, _, _, rfl⟩ (fun j Γ' S2 hj hp => ?_) fun Γ' S2 hp => ?_
      · obtain ⟨rfl, o6, o9, o10, o11, o12, o14, rfl⟩ := hp
        have top : ∀ k, (S' ++ gS t ss i k ++ [Cell.lst (ownsN S'.length t.length)])[S'.length + t.length]? = some (.lst (ownsN S'.length t.length)) := fun k => by
          rw [List.getElem?_append_right (by rw [List.length_append, gS_len]; exact Nat.le_refl _), List.length_append, gS_len, Nat.sub_self]
          rfl
        have eG : ∀ k, asI (S' ++ gS t ss i k ++ [Cell.lst (ownsN S'.length t.length)]) (.own S.length) = some (C, seeF t ss) := fun k => by rw [List.append_assoc]; exact eI _
        have hXs : ∀ x ∈ X, x.1 < 100 ∧ x.2 < 100 := fun x hx => by
          obtain ⟨s, hs, hb⟩ := (sp.mem x).mp hx
          obtain ⟨g1, g2, g3⟩ := hasB_iff.mp hb
          have so := oks.at_ s hs
          have := so.l
          have := so.c
          omega
        have hX5 := sp.hi
        walk_at "dl"
        refine joinS (fun Γ S2 => S2 = S' ++ gS t ss i (j + 1) ++ [.lst (ownsN S'.length t.length)] ∧ ∃ o6 o11 o12 o14 : Option D, Γ = [some (natsD t), some (sgsD ss), some (.lst (X.map spD)), some (.own S.length), some (.lst ((everyF X ss).map natsD)), some .non, o6, some (.own (S'.length + t.length)), some (.int (i : Nat)), some (.int (j : Nat)), some (rangeD ss i j), o11, o12, some (.int (t.getD i 0 : Nat)), o14]) (fun Γ S2 hp => ?_) (fun N hN => ?_)
        · obtain ⟨rfl, o6, o11, o12, o14, rfl⟩ := hp
          walk_at "dl"
          obtain ⟨p, p1, p2, p3, p4⟩ := range_py (ss := ss) (i := i) (c := j) fun v hv => by
            have b := best_in oks hv
            have : v < 10 ^ 31 := Int.lt_of_le_of_lt b.2 (by decide)
            omega
          have ib : inB (i : Int) 0 ((t.length : Int) - 1) = true := by
            unfold inB
            rw [Bool.and_eq_true, decide_eq_true_eq, decide_eq_true_eq]
            omega
          have jb : inB (j : Int) 0 ((t.getD (i : Int).toNat 0 : Nat) - 1) = true := by
            unfold inB
            rw [Int.toNat_natCast, Bool.and_eq_true, decide_eq_true_eq, decide_eq_true_eq]
            omega
          refine ⟨_, eG _, rfl, _, t, ss, (i : Int), (j : Int), rfl, eG _, ok, oks, fun z => absurd ib (by rw [z]; exact Bool.false_ne_true), fun _ z => absurd jb (by rw [z]; exact Bool.false_ne_true), fun _ _ => ⟨fun _ => ?_, fun z => absurd hc z⟩⟩
          rw [Int.toNat_natCast, Int.toNat_natCast]
          refine ⟨p, p2 _, p3.x.shw, fun z e => absurd e (p4 z), p, p2 _, p3.x.shw, fun z e => absurd e (p4 z), ?_⟩
          walk_at "dl"
          rw [show (!(p.shown == p.shown)) = false by simp]
          rw [if_neg Bool.false_ne_true]
          refine ⟨_, eG _, rfl, _, t, ss, (i : Int), (j : Int), rfl, eG _, ok, oks, fun z => absurd ib (by rw [z]; exact Bool.false_ne_true), fun _ z => absurd jb (by rw [z]; exact Bool.false_ne_true), fun _ _ => ⟨fun _ => ?_, fun z => absurd hc z⟩⟩
          rw [Int.toNat_natCast, Int.toNat_natCast]
          refine ne_same (p1 _) (p1 _) p3 ⟨_, rfl, ?_⟩
          rw [if_neg Bool.false_ne_true]
          exact ⟨rfl, _, _, _, _, _, _, rfl⟩
        · walk_at "dl"
          refine ⟨small (by decide), in_spots ?_ ?_ hXs ?_ ?_⟩
          · omega
          · omega
          · omega
          refine ⟨_, rfl, ?_⟩
          by_cases hx : (i, j) ∈ X
          · rw [if_pos (by rw [decide_eq_true hx])]
            obtain ⟨k, hk, ek⟩ := List.mem_iff_getElem.mp hx
            obtain ⟨s0, hs0, hb0, he0⟩ := spot_best sp hx
            refine lc_mapP (everyF X ss) natsD (fun r => .int (r.getD k 0 : Nat)) (small (by omega)) (fun r hr A hA => ?_) ?_
            · have hr1 := (every_row hr).1
              walk_at "dl"
              refine ⟨small (by decide), idx_spots sp.nd hXs (by omega) hk ek ?_⟩
              refine ⟨_, .int (r[k]'(by omega) : Nat), rfl, by rw [at_nat, List.getElem?_map, List.getElem?_eq_getElem (by omega)]; rfl, ?_⟩
              rw [show r[k]'(by omega) = r.getD k 0 by rw [List.getD_eq_getElem?_getD, List.getElem?_eq_getElem (by omega)]; rfl]
              exact hA
            · rw [finF_e]
              have hb : bestF ss X[k].1 X[k].2 = some s0.w := by rw [ek]; exact he0
              refine ⟨(everyF X ss).map fun r => ((r.getD k 0 : Nat) : Int), [0, 1, 2, 3], by rw [List.map_map]; rfl, by rw [List.length_map]; omega, by decide, fun z hz => ?_, fun qs hq hr => ?_⟩
              · obtain ⟨r, hr, rfl⟩ := List.mem_map.mp hz
                have := (rok r hr).2
                have : r.getD k 0 ≤ 3 := by
                  rw [List.getD_eq_getElem?_getD, List.getElem?_eq_getElem (by rw [(every_row hr).1]; exact hk)]
                  exact this _ (List.getElem_mem _)
                simp only [List.mem_cons, List.not_mem_nil, or_false]
                omega
              obtain ⟨lo, n, eb, er, rfl⟩ := vals_are sp w0 fl hc hk hb hq hr
              have w30 := w3 s0 hs0
              rw [ek] at er
              have eb2 : (lo : Int) + (n : Int) = s0.w := by omega
              have hl : lo + n ≤ 3 := by omega
              refine ⟨_, fromN_first _ _, _, fromN_last _ _, small (by decide), _, fromN_last _ _, _, top j, _, by rw [at_nat, ownsN_get hi], ?_⟩
              rw [dSetO_e]
              refine ⟨_, gS_get hi, j, ?_, ?_⟩
              · unfold ixN
                rw [gR_len, if_pos (by omega), if_pos (by omega)]
                simp
              have eset : (D.int ((lo : Int) + (n : Int))) = D.int ((bestF ss i j).getD 0) := by rw [he0, eb2]; rfl
              rw [eset, gS_set hi hj]
              refine ⟨_, fromN_first _ _, _, fromN_last _ _, ?_⟩
              walk_at "dl"
              refine ⟨lo, n + 1, rfl, by congr 1 <;> omega, by omega, ?_⟩
              rw [fromN_rng]
              refine ne_same (p := .list ((fromN lo (n + 1)).map PyData.int)) ?_ ?_ (fit_list (n := 0) (m := 3) (l := 4) (fun p hp => ?_) ?_) ⟨false, rfl, ?_⟩
              · rw [← fromN_rng]
                exact .lst (pyra_map (g := PyData.int) (fun z => .int z) _)
              · rw [← fromN_rng]
                exact .lst (pyra_map (g := PyData.int) (fun z => .int z) _)
              · obtain ⟨z, hz, rfl⟩ := List.mem_map.mp hp
                have := fromN_mem.mp hz
                exact fit_int (k := 2) (by omega)
              · unfold fromN
                rw [List.length_map, List.length_map, List.length_range]
                omega
              rw [if_neg Bool.false_ne_true]
              refine hN _ _ ⟨rfl, o6, some (.lst (rngD (lo : Int) (n + 1))), o12, o14, ?_⟩
              rw [er, he0]
              rfl
          · rw [if_neg (by rw [decide_eq_false hx]; exact Bool.false_ne_true)]
            have hn := spot_no sp hx
            have er : rangeD ss i j = .non := by
              unfold rangeD
              rw [hn]
            rw [er] at hN
            exact hN _ _ ⟨by rw [gS_skip hn], _, _, _, _, rfl⟩
      · obtain ⟨rfl, o6, o9, o10, o11, o12, o14, rfl⟩ := hp
        exact ⟨by rw [gS_line], _, _, _, _, _, _, _, _, rfl⟩
    · obtain ⟨rfl, o6, o8, o9, o10, o11, o12, o13, o14, rfl⟩ := hp
      walk_at "dl"
      refine ⟨_, by rw [List.append_assoc]; exact eI _, rfl, _, t, ss, rfl, by rw [List.append_assoc]; exact eI _, ok, oks, fun _ qs hq1 hq2 => ?_, fun z => absurd hc z⟩
      refine ⟨_, by rw [List.append_assoc]; exact eI _, rfl, _, t, ss, rfl, by rw [List.append_assoc]; exact eI _, ok, oks, fun _ G hG => ?_, fun z => absurd hc z⟩
      obtain ⟨Q, hQ, hm, _⟩ := ex_nodup (ss.map fun s => (s.c, s.w))
      have ew : waysF t ss qs = ((everyF X ss).length : Int) := by
        rw [ways_Q ok oks hc hq1 hq2 hQ fun s hs => (hm _).mpr (List.mem_map.mpr ⟨s, hs, rfl⟩), every_ways oks h60 sp hQ hm]
      rw [ew, List.length_map, gS_end]
      obtain ⟨B, hB⟩ : ∃ B, B = S' ++ (rows0F t ss).map Cell.lst ++ [Cell.lst (ownsN S'.length t.length)] ++ G := ⟨_, rfl⟩
      have r0l : (rows0F t ss).length = t.length := by unfold rows0F; rw [List.length_map, List.length_range]
      have lB : (S' ++ (rows0F t ss).map Cell.lst ++ [Cell.lst (ownsN S'.length t.length)]).length + (t.length + 1) = B.length := by rw [hB, List.length_append (bs := G), hG]
      rw [lB, ← hB]
      have r0 : ∀ i, i < t.length → (rows0F t ss)[i]? = some (row0F ss (t.getD i 0) i) := fun i hi => by
        unfold rows0F
        rw [List.getElem?_map, List.getElem?_range hi]
        rfl
      have P0 : ∀ (S9 : Sto) i, i < t.length → PyXA S9 (row0F ss (t.getD i 0) i) ((List.range (t.getD i 0)).map fun c => PyData.int ((bestF ss i c).getD 0)) := fun S9 i _ => pyxa_map (g := fun c => PyData.int ((bestF ss i c).getD 0)) (fun c => .int _) _
      have top1 : (B ++ (rows0F t ss).map Cell.lst ++ [Cell.lst (ownsN B.length t.length)])[B.length + t.length]? = some (.lst (ownsN B.length t.length)) := by
        have := cells_top (B := B) (Z := []) (rs := rows0F t ss) (c := .lst (ownsN B.length t.length)) r0l
        rw [List.append_nil] at this
        exact this
      have top2 : (B ++ (rows0F t ss).map Cell.lst ++ [Cell.lst (ownsN B.length t.length)])[S'.length + t.length]? = some (.lst (ownsN S'.length t.length)) := by
        have := cells_top (B := S') (Z := G ++ (rows0F t ss).map Cell.lst ++ [Cell.lst (ownsN B.length t.length)]) (rs := rows0F t ss) (c := .lst (ownsN S'.length t.length)) r0l
        rw [← this, hB]
        simp only [List.append_assoc]
      have row1 : ∀ i, i < t.length → (B ++ (rows0F t ss).map Cell.lst ++ [Cell.lst (ownsN B.length t.length)])[B.length + i]? = some (.lst (row0F ss (t.getD i 0) i)) := fun i hi => by
        have e1 := r0 i hi
        rw [List.getElem?_eq_getElem (by omega)] at e1
        rw [cells_at (by omega), Option.some.inj e1]
      have row2 : ∀ i, i < t.length → (B ++ (rows0F t ss).map Cell.lst ++ [Cell.lst (ownsN B.length t.length)])[S'.length + i]? = some (.lst (row0F ss (t.getD i 0) i)) := fun i hi => by
        have e1 := r0 i hi
        rw [List.getElem?_eq_getElem (by omega)] at e1
        have := cells_at (B := S') (Z := [Cell.lst (ownsN S'.length t.length)] ++ G ++ (rows0F t ss).map Cell.lst ++ [Cell.lst (ownsN B.length t.length)]) (rs := rows0F t ss) (i := i) (by omega)
        rw [← Option.some.inj e1, ← this, hB]
        simp only [List.append_assoc]
      have d1 := pyx_deep top1 row1 (P0 _)
      have d2 := pyx_deep top2 row2 (P0 _)
      have fw : FitX 0 8 (.int ((everyF X ss).length : Int)) := fitx_int (k := 7) (by omega)
      have fd : FitX 2 40000 (.list ((List.range t.length).map fun i => .list ((List.range (t.getD i 0)).map fun c => PyData.int ((bestF ss i c).getD 0)))) := (fitx_list (n := 1) (m := 2 + 11 * (41 + 2)) (l := 60) (fun p hp => by
        obtain ⟨i, hi, rfl⟩ := List.mem_map.mp hp
        have hi := List.mem_range.mp hi
        refine fitx_list (n := 0) (m := 41) (l := 11) (fun p hp => ?_) ?_
        · obtain ⟨c, _, rfl⟩ := List.mem_map.mp hp
          refine fitx_int (k := 40) ?_
          cases hb : bestF ss i c with
          | none => decide
          | some v =>
            have b := best_in oks hb
            have : v < 10 ^ 31 := Int.lt_of_le_of_lt b.2 (by decide)
            show v.natAbs < _
            omega
        · rw [List.length_map, List.length_range, List.getD_eq_getElem?_getD, List.getElem?_eq_getElem hi, Option.getD_some]
          exact ok.at_ _ (List.getElem_mem hi)) (by rw [List.length_map, List.length_range]; exact h60)).mono (by decide) (by decide)
      have f2 := fitx_list (n := 2) (m := 40000) (l := 2) (allc (fw.mono (by decide) (by decide)) (allc fd all0)) (Nat.le_refl 2)
      refine ⟨small (by decide), _, .lst (.cons (.int _) (.cons d1 .nil)), f2.shw, (fun z e => nomatch e), small (by decide), _, .lst (.cons (.int _) (.cons d2 .nil)), f2.shw, (fun z e => nomatch e), ?_⟩
      walk_at "dl"
      rw [beq_self_eq_true, hB, hS0]
      simp only [List.append_assoc]
      exact ret_cut rfl q
  · have ev : everyF X ss = [] := (every_nil sp w0 fl).mpr hc
    rw [ev]
    have nn := non_no hc
    have empty : ∀ (S9 : Sto) (Φ9 : KD), Φ9 S9 (.bl true) → dEq (.lst []) (.lst []) S9 Φ9 := fun S9 Φ9 h => ⟨.list [], .list [], .lst .nil, .lst .nil, (fit_list (n := 0) (m := 4) (l := 100) (ps := []) (by simp) (by simp)).shaped, (fit_list (n := 0) (m := 4) (l := 100) (ps := []) (by simp) (by simp)).shaped, by rw [eqv_nil]; exact h⟩
    have emptyN : ∀ (S9 : Sto) (Φ9 : KD), Φ9 S9 (.bl false) → dNe (.lst []) (.lst []) S9 Φ9 := fun S9 Φ9 h => ⟨.list [], .list [], .lst .nil, .lst .nil, (fit_list (n := 0) (m := 4) (l := 100) (ps := []) (by simp) (by simp)).shaped, (fit_list (n := 0) (m := 4) (l := 100) (ps := []) (by simp) (by simp)).shaped, by rw [eqv_nil]; exact h⟩
    show 0 ≤ sizeLine ∧ _
    rw [nn]
    refine ⟨small (by decide), emptyN _ _ ⟨rfl, _, rfl, ?_⟩⟩
    rw [if_neg (by decide)]
    refine ⟨small (by decide), empty _ _ ⟨_, rfl, ?_⟩⟩
    rw [if_pos rfl]
    refine ⟨by decide, by decide, ?_⟩
    obtain ⟨W, hW⟩ : ∃ W, W = D.tup [D.str (Str.ofString "reason"), conflD ss] := ⟨_, rfl⟩
    refine lc_r0 (n := 3) (fun i acc S2 => S2 = S' ∧ acc = List.replicate i W) (small (by decide)) ⟨rfl, rfl⟩ (fun i acc S2 hi hp => ?_) fun acc S2 hp => ?_
    · obtain ⟨rfl, rfl⟩ := hp
      walk_at "dl"
      refine ⟨_, t, ss, i, rfl, eI0, ok, oks, hc, rfl, ?_⟩
      rw [← hW, List.replicate_succ']
    · obtain ⟨rfl, rfl⟩ := hp
      rw [finF_e]
      obtain ⟨s0, hs0⟩ : ∃ s0, s0 ∈ ss := by
        cases hss : ss with
        | nil => rw [hss] at hc; exact absurd rfl hc
        | cons a as => exact ⟨a, List.mem_cons_self⟩
      have so := oks.at_ s0 hs0
      have hx0 := (sp.mem (s0.f, s0.c)).mpr ⟨s0, hs0, hasB_iff.mpr ⟨rfl, Nat.le_refl _, so.fl⟩⟩
      have hX0 : 0 < X.length := List.length_pos_of_mem hx0
      obtain ⟨s1, hs1, hb1⟩ := (sp.mem X[0]).mp (List.getElem_mem hX0)
      obtain ⟨g1, g2, g3⟩ := hasB_iff.mp hb1
      have so1 := oks.at_ s1 hs1
      have at0 : atI (X.map spD) 0 = some (spD X[0]) := by
        show atI _ ((0 : Nat) : Int) = _
        rw [at_nat, List.getElem?_map, List.getElem?_eq_getElem hX0]
        rfl
      refine ⟨_, at0, ?_⟩
      walk_at "dl"
      refine ⟨_, at0, ?_⟩
      walk_at "dl"
      refine ⟨_, t, ss, X[0].1, X[0].2, rfl, eI0, ok, oks, Nat.lt_of_le_of_lt g3 so1.l, by rw [← g1]; exact so1.has _ g2 g3, hc, small (by decide), ?_⟩
      rw [← hW]
      walk_at "dl"
      obtain ⟨p, rp, fp⟩ := conf_py oks h60 hc
      have fw : Fit 3 5000 (.tuple [.str (Str.ofString "reason"), p]) := (fit_tup (n := 2) (m := 2000) (l := 2) (allc (fit_reason.mono (by decide) (by decide)) (allc fp all0)) (Nat.le_refl 2)).mono (by decide) (by decide)
      have rw_ : ∀ S9, PyR S9 W (.tuple [.str (Str.ofString "reason"), p]) := fun S9 => by rw [hW]; exact .tup (.cons (.str _) (.cons (rp S9) .nil))
      have r4 : ∀ S9, PyR S9 (.lst [W, W, W, W]) (.list [.tuple [.str (Str.ofString "reason"), p], .tuple [.str (Str.ofString "reason"), p], .tuple [.str (Str.ofString "reason"), p], .tuple [.str (Str.ofString "reason"), p]]) := fun S9 => .lst (.cons (rw_ S9) (.cons (rw_ S9) (.cons (rw_ S9) (.cons (rw_ S9) .nil))))
      have f4 := fit_list (n := 3) (m := 5000) (l := 4) (allc fw (allc fw (allc fw (allc fw all0)))) (Nat.le_refl 4)
      refine ⟨small (show 4 ≤ 1000000 by decide), small (by decide), small (by decide), by decide, by decide, small (by decide), eq_same (r4 _) (r4 _) f4 ?_⟩
      rw [hS0]
      exact ret_cut rfl q
end DL
namespace DL
open PySem PySem.Spec PyProof.Rows L2
local macro_rules | `(tactic| walk_at "dl") => `(tactic| ((try simp only [gstart, gwipe, List.set_set, List.map_cons, List.map_nil, List.length_cons, List.length_nil, rep_0, rep_s, List.cons_append, List.nil_append, List.set_cons_zero, List.set_cons_succ, Nat.reduceAdd, Nat.reduceSub, Nat.zero_add, Nat.add_zero]); (try simp only [↓dv0, ↓dv1, ↓dv2, ↓dv3, ↓dv4, ↓dv5, ↓dv6, ↓dv7, ↓dv8, ↓dv9, ↓dv10, ↓dv11, ↓dv12, ↓dv13, ↓dv14, ↓dv15, ↓dv16, ↓dv17, ↓dv18, ↓dv19, ↓dv20, ↓dv21, ↓dv22, ↓dv23, ↓dv24, ↓dv25, ↓dv26, ↓dv27, ↓dv28, ↓dv29, ↓dv30, ↓dv31, ↓dv32, ↓dv33, ↓dv34, ↓dv35, ↓dv36, ↓dv37, ↓dv38, ↓dv39, ↓nm0, ↓nm1, ↓nm2, ↓nm3, ↓nm4, ↓nm5, ↓nm6, ↓nm7, ↓nm8, ↓nm9, ↓nm10, ↓nm11, ↓nm12, ↓nm13, ↓nm14, ↓nm15, ↓nm16, ↓nm17, ↓nm18, ↓nm19, ↓nm20, ↓nm21, ↓nm22, ↓nm23, ↓nm24, ↓nm25, ↓nm26, ↓nm27, ↓nm28, ↓nm29, ↓nm30, ↓nm31, ↓nm32, ↓nm33, ↓nm34, ↓nm35, ↓nm36, ↓nm37, ↓nm38, ↓nm39, ↓sPar_n, ↓sPar3_n, ↓sAug_n, ↓reduceIte, List.set_set, ↓sNext_e, ↓sSeq_e, ↓sBrk_e, ↓sCnt_e, ↓sDrop_e, ↓sRet_e, ↓sRetN_e, ↓sIf_e, ↓sAsg_e, ↓sRaise_e, ↓nmG_e, ↓tupG_e, ↓gsNil_e, ↓gsCons_e, ↓subG_e, ↓dC_e, ↓dOp_e, ↓dUn_e, ↓dChain_e, ↓bOf_e, ↓bAnd_e, ↓bOr_e, ↓bNot_e, ↓bYes_e, ↓dAnd_e, ↓dOr_e, ↓dNot_e, ↓dIf_e, ↓lNil_e, ↓lCons_e, ↓dLst_e, ↓dDic0_e, ↓dDic1_e, ↓dLenSetG_e, dIsB_b, ↓dLstO_e, ↓dTup_e, ↓dCB_e, ↓dCall_e, ↓dCallK_e, ↓oNone_e, ↓oSome_e, ↓dSl_e, ↓dBM_e, ↓dBM0_e, ↓dFz_e, ↓dFz2_e, ↓d2_e, ↓dLone_e, ↓lStar_e, ↓dCallA_e, ↓dMakeA_e, ↓dMakeV_e, ↓dMethA_e, ↓dCMethA_e, ↓dPropA_e, ↓dFld_e, ↓sFldS_e, ↓dFzI_e, ↓fzID_o, ↓dM1_e, ↓dM0_e, ↓dRev_e, ↓mSplit_s, ↓mUpper_s, ↓exStr, ↓exZ, ↓cStrI_i, ↓cIntS_s, ↓iStrD_e, ↓dEqF_s, ↓dNeF_s, ↓dEqF_i, ↓dNeF_i, ↓dSign_s, ↓sRaiseI_e, ↓dXFld_e, ↓mPop_e, ↓dAddO_l, ↓dAddO_o, ↓dMk0_e, ↓sKeep_e, ↓sTryH_e, ↓dCVal_e, ↓dConI_e, ↓cLen_s, ↓dIx_s, ↓dSlS_s, ↓dAdd_s, ↓cTup_l, ↓pkP_e, ↓pkS_e, ↓lstG_e, ↓asI_i, ↓iSeq_e, ↓iTupD_e, ↓iRg1_e, ↓iRg2_e, ↓iZipD_e, iZrD_e, ↓iEnumD_e, ↓sFor_e, ↓dLc_e, ↓finF_e, ↓finO_e, ↓fzD_l, ↓fzD_i, ↓fzD_o, ↓fzD2_o, ↓dSetO_e, ↓mAppend_e, ↓mClear_e, ↓mReverse_e, List.map_cons, List.map_nil, List.length_cons, List.length_nil, rep_0, rep_s, List.cons_append, List.nil_append, List.getElem?_cons_zero, List.getElem?_cons_succ, List.set_cons_zero, List.set_cons_succ, Nat.reduceAdd, Nat.reduceSub, Nat.zero_add, Nat.add_zero, ↓exSS, ↓exB, ↓exI, ↓ex1, ↓ex2, ↓ex3, ↓exI1, ↓exI2, ↓exT, ↓exC, ↓exAs, ↓dAdd_i, ↓dAddI_i, ↓dSubI_i, ↓dLRg_e, ↓dIsiT_e, ↓dLenSet_e, ↓bChain3_e, ↓dLRg2_e, ↓iRg3_e, ↓dLc2_e, ↓dSlT_t, dAddT_t, ↓dNewK_e, ↓dDis1_e, ↓sDkp_e, ↓dDGet_e, ↓dDGet2_e, ↓dLVals_e, ↓kD_ex_i, ↓dSS_e, ↓dST_e, ↓dSI_e, ↓lsG_e, ↓dMulI_i, ↓dNew_e, ↓sDct_e, ↓dMulO_l, ↓dLRgO_e, ↓dAdd_l, ↓dSub_i, ↓dMul_i, ↓dMul_l, ↓dMod_i, ↓dDiv_i, ↓dPow_i, ↓dLt_i, ↓dLe_i, ↓dGt_i, ↓dGe_i, ↓uNeg_i, ↓cMax2_i, ↓cMin2_i, ↓cAbs_i, ↓cInt_i, ↓cInt_b, ↓cLen_l, ↓cLen_q, ↓cLen_t, ↓cList_l, ↓cList_q, ↓cList_t, ↓cListO_l, ↓cListO_t, ↓dIx_l, ↓dIx_q, ↓dIx_t, ↓dIx_o', ↓exS, ↓exL, at_1, at_2, at_3, at_4, ix30, ix31, ix32, ↓dSlL_l, ↓dSlL_q, ↓asQ_l, ↓asL_l, at_0, ↓isi_non_int, ↓isi_non_bool, ↓isi_non_str, ↓isi_non_list, ↓isi_non_tuple, ↓isi_non_dict, ↓isi_bl_int, ↓isi_bl_bool, ↓isi_bl_str, ↓isi_bl_list, ↓isi_bl_tuple, ↓isi_bl_dict, ↓isi_int_int, ↓isi_int_bool, ↓isi_int_str, ↓isi_int_list, ↓isi_int_tuple, ↓isi_int_dict, ↓isi_str_int, ↓isi_str_bool, ↓isi_str_str, ↓isi_str_list, ↓isi_str_tuple, ↓isi_str_dict, ↓isi_lst_int, ↓isi_lst_bool, ↓isi_lst_str, ↓isi_lst_list, ↓isi_lst_tuple, ↓isi_lst_dict, ↓isi_sq_int, ↓isi_sq_bool, ↓isi_sq_str, ↓isi_sq_list, ↓isi_sq_tuple, ↓isi_sq_dict, ↓isi_tup_int, ↓isi_tup_bool, ↓isi_tup_str, ↓isi_tup_list, ↓isi_tup_tuple, ↓isi_tup_dict, ↓isi_dic_int, ↓isi_dic_bool, ↓isi_dic_str, ↓isi_dic_list, ↓isi_dic_tuple, ↓isi_dic_dict, if_true, if_false, Bool.not_true, Bool.not_false, true_and, and_true, reduceCtorEq, Bool.true_eq_false, Bool.false_eq_true, ite_true, ite_false, ↓exAny, ↓isLst_l, Int.toNat_natCast, Int.reduceToNat, dVar_e, sPar_e, sPar3_e, sAug_e])))
local macro_rules | `(tactic| walk_at "dls") => `(tactic| ((try simp only [gstart, gwipe, List.set_set, List.map_cons, List.map_nil, List.length_cons, List.length_nil, rep_0, rep_s, List.cons_append, List.nil_append, List.set_cons_zero, List.set_cons_succ, Nat.reduceAdd, Nat.reduceSub, Nat.zero_add, Nat.add_zero]); (try simp only [*, ↓dv0, ↓dv1, ↓dv2, ↓dv3, ↓dv4, ↓dv5, ↓dv6, ↓dv7, ↓dv8, ↓dv9, ↓dv10, ↓dv11, ↓dv12, ↓dv13, ↓dv14, ↓dv15, ↓dv16, ↓dv17, ↓dv18, ↓dv19, ↓dv20, ↓dv21, ↓dv22, ↓dv23, ↓dv24, ↓dv25, ↓dv26, ↓dv27, ↓dv28, ↓dv29, ↓dv30, ↓dv31, ↓dv32, ↓dv33, ↓dv34, ↓dv35, ↓dv36, ↓dv37, ↓dv38, ↓dv39, ↓nm0, ↓nm1, ↓nm2, ↓nm3, ↓nm4, ↓nm5, ↓nm6, ↓nm7, ↓nm8, ↓nm9, ↓nm10, ↓nm11, ↓nm12, ↓nm13, ↓nm14, ↓nm15, ↓nm16, ↓nm17, ↓nm18, ↓nm19, ↓nm20, ↓nm21, ↓nm22, ↓nm23, ↓nm24, ↓nm25, ↓nm26, ↓nm27, ↓nm28, ↓nm29, ↓nm30, ↓nm31, ↓nm32, ↓nm33, ↓nm34, ↓nm35, ↓nm36, ↓nm37, ↓nm38, ↓nm39, ↓sPar_n, ↓sPar3_n, ↓sAug_n, ↓reduceIte, List.set_set, ↓sNext_e, ↓sSeq_e, ↓sBrk_e, ↓sCnt_e, ↓sDrop_e, ↓sRet_e, ↓sRetN_e, ↓sIf_e, ↓sAsg_e, ↓sRaise_e, ↓nmG_e, ↓tupG_e, ↓gsNil_e, ↓gsCons_e, ↓subG_e, ↓dC_e, ↓dOp_e, ↓dUn_e, ↓dChain_e, ↓bOf_e, ↓bAnd_e, ↓bOr_e, ↓bNot_e, ↓bYes_e, ↓dAnd_e, ↓dOr_e, ↓dNot_e, ↓dIf_e, ↓lNil_e, ↓lCons_e, ↓dLst_e, ↓dDic0_e, ↓dDic1_e, ↓dLenSetG_e, dIsB_b, ↓dLstO_e, ↓dTup_e, ↓dCB_e, ↓dCall_e, ↓dCallK_e, ↓oNone_e, ↓oSome_e, ↓dSl_e, ↓dBM_e, ↓dBM0_e, ↓dFz_e, ↓dFz2_e, ↓d2_e, ↓dLone_e, ↓lStar_e, ↓dCallA_e, ↓dMakeA_e, ↓dMakeV_e, ↓dMethA_e, ↓dCMethA_e, ↓dPropA_e, ↓dFld_e, ↓sFldS_e, ↓dFzI_e, ↓fzID_o, ↓dM1_e, ↓dM0_e, ↓dRev_e, ↓mSplit_s, ↓mUpper_s, ↓exStr, ↓exZ, ↓cStrI_i, ↓cIntS_s, ↓iStrD_e, ↓dEqF_s, ↓dNeF_s, ↓dEqF_i, ↓dNeF_i, ↓dSign_s, ↓sRaiseI_e, ↓dXFld_e, ↓mPop_e, ↓dAddO_l, ↓dAddO_o, ↓dMk0_e, ↓sKeep_e, ↓sTryH_e, ↓dCVal_e, ↓dConI_e, ↓cLen_s, ↓dIx_s, ↓dSlS_s, ↓dAdd_s, ↓cTup_l, ↓pkP_e, ↓pkS_e, ↓lstG_e, ↓asI_i, ↓iSeq_e, ↓iTupD_e, ↓iRg1_e, ↓iRg2_e, ↓iZipD_e, iZrD_e, ↓iEnumD_e, ↓sFor_e, ↓dLc_e, ↓finF_e, ↓finO_e, ↓fzD_l, ↓fzD_i, ↓fzD_o, ↓fzD2_o, ↓dSetO_e, ↓mAppend_e, ↓mClear_e, ↓mReverse_e, List.map_cons, List.map_nil, List.length_cons, List.length_nil, rep_0, rep_s, List.cons_append, List.nil_append, List.getElem?_cons_zero, List.getElem?_cons_succ, List.set_cons_zero, List.set_cons_succ, Nat.reduceAdd, Nat.reduceSub, Nat.zero_add, Nat.add_zero, ↓exSS, ↓exB, ↓exI, ↓ex1, ↓ex2, ↓ex3, ↓exI1, ↓exI2, ↓exT, ↓exC, ↓exAs, ↓dAdd_i, ↓dAddI_i, ↓dSubI_i, ↓dLRg_e, ↓dIsiT_e, ↓dLenSet_e, ↓bChain3_e, ↓dLRg2_e, ↓iRg3_e, ↓dLc2_e, ↓dSlT_t, dAddT_t, ↓dNewK_e, ↓dDis1_e, ↓sDkp_e, ↓dDGet_e, ↓dDGet2_e, ↓dLVals_e, ↓kD_ex_i, ↓dSS_e, ↓dST_e, ↓dSI_e, ↓lsG_e, ↓dMulI_i, ↓dNew_e, ↓sDct_e, ↓dMulO_l, ↓dLRgO_e, ↓dAdd_l, ↓dSub_i, ↓dMul_i, ↓dMul_l, ↓dMod_i, ↓dDiv_i, ↓dPow_i, ↓dLt_i, ↓dLe_i, ↓dGt_i, ↓dGe_i, ↓uNeg_i, ↓cMax2_i, ↓cMin2_i, ↓cAbs_i, ↓cInt_i, ↓cInt_b, ↓cLen_l, ↓cLen_q, ↓cLen_t, ↓cList_l, ↓cList_q, ↓cList_t, ↓cListO_l, ↓cListO_t, ↓dIx_l, ↓dIx_q, ↓dIx_t, ↓dIx_o', ↓exS, ↓exL, at_1, at_2, at_3, at_4, ix30, ix31, ix32, ↓dSlL_l, ↓dSlL_q, ↓asQ_l, ↓asL_l, at_0, ↓isi_non_int, ↓isi_non_bool, ↓isi_non_str, ↓isi_non_list, ↓isi_non_tuple, ↓isi_non_dict, ↓isi_bl_int, ↓isi_bl_bool, ↓isi_bl_str, ↓isi_bl_list, ↓isi_bl_tuple, ↓isi_bl_dict, ↓isi_int_int, ↓isi_int_bool, ↓isi_int_str, ↓isi_int_list, ↓isi_int_tuple, ↓isi_int_dict, ↓isi_str_int, ↓isi_str_bool, ↓isi_str_str, ↓isi_str_list, ↓isi_str_tuple, ↓isi_str_dict, ↓isi_lst_int, ↓isi_lst_bool, ↓isi_lst_str, ↓isi_lst_list, ↓isi_lst_tuple, ↓isi_lst_dict, ↓isi_sq_int, ↓isi_sq_bool, ↓isi_sq_str, ↓isi_sq_list, ↓isi_sq_tuple, ↓isi_sq_dict, ↓isi_tup_int, ↓isi_tup_bool, ↓isi_tup_str, ↓isi_tup_list, ↓isi_tup_tuple, ↓isi_tup_dict, ↓isi_dic_int, ↓isi_dic_bool, ↓isi_dic_str, ↓isi_dic_list, ↓isi_dic_tuple, ↓isi_dic_dict, if_true, if_false, Bool.not_true, Bool.not_false, true_and, and_true, reduceCtorEq, Bool.true_eq_false, Bool.false_eq_true, ite_true, ite_false, ↓exAny, ↓isLst_l, Int.toNat_natCast, Int.reduceToNat, dVar_e, sPar_e, sPar3_e, sAug_e])))
--MI
def cutW (s : Sg) : Sg := ⟨s.c, s.f, s.l, if s.w < 3 then s.w else 3⟩
theorem cut_spots {X : List (Nat × Nat)} {us : List Sg} (h : Spots X us) : Spots X (us.map cutW) := ⟨h.nd, h.hi, fun x => by
  rw [h.mem]
  constructor
  · rintro ⟨s, hs, hb⟩
    exact ⟨cutW s, List.mem_map.mpr ⟨s, hs, rfl⟩, hb⟩
  · rintro ⟨s', hs, hb⟩
    obtain ⟨s, hm, rfl⟩ := List.mem_map.mp hs
    exact ⟨s, hm, hb⟩⟩
theorem cutW_ok {t : List Nat} {s : Sg} (h : SgOk t s) : SgOk t (cutW s) ∧ (cutW s).w ≤ 3 := by
  have h0 := h.w0
  have h1 := h.w1
  refine ⟨⟨h.c, h.fl, h.l, ?_, ?_, h.has⟩, ?_⟩
  · show 0 ≤ (if s.w < 3 then s.w else 3)
    split <;> omega
  · show (if s.w < 3 then s.w else 3) ≤ MOST
    split
    · exact h1
    · decide
  · show (if s.w < 3 then s.w else 3) ≤ 3
    split <;> omega
theorem p_law : Rets sp_law T_law N_law := by
  rintro _ S Φ Ψ ⟨ns, rfl, q⟩
  unfold T_law
  refine seqJ (fun Γ S' => True) (fun N hN => ?_) fun Γ S' _ => ?_
  · walk_at "dl"
    obtain ⟨m, em, hm⟩ : ∃ m : Nat, (if (if ((ns.map D.int).length : Int) < 4 then ((ns.map D.int).length : Int) else 4) > 1 then if ((ns.map D.int).length : Int) < 4 then ((ns.map D.int).length : Int) else 4 else 1) = m ∧ m ≤ 4 := by
      refine ⟨Int.toNat _, (Int.toNat_of_nonneg ?_).symm, ?_⟩ <;> (repeat' split) <;> omega
    rw [em]
    refine ⟨by omega, by omega, ?_⟩
    refine for_r0 (fun i Γ S2 => ∃ a1 a2 a3 a4 a5 a6 a7 a8, Γ = [some (.sq (ns.map D.int)), a1, a2, a3, a4, a5, a6, a7, a8]) ⟨_, _, _, _, _, _, _, _, rfl⟩ (fun k Γ' S2 hk hp => ?_) fun Γ' S2 hp => hN _ _ trivial
    obtain ⟨a1, a2, a3, a4, a5, a6, a7, a8, rfl⟩ := hp
    walk_at "dl"
    refine ⟨ns, k, rfl, by omega, fun c hc => ?_⟩
    have g0 : FdAt (S2 ++ [c]) S2.length 0 := ⟨c, get_at, hc⟩
    refine ⟨by decide, by decide, ?_⟩
    refine for_r0 (n := 2) (fun i Γ S3 => FdAt S3 S2.length (2000000 * i) ∧ ∃ a3 a4 a5 a6 a7 a8, Γ = [some (.sq (ns.map D.int)), some (.int k), some (.own S2.length), a3, a4, a5, a6, a7, a8]) ⟨g0, _, _, _, _, _, _, rfl⟩ (fun i Γ' S3 ht hp => ?_) fun Γ' S3 hp => ?_
    · obtain ⟨g, a3, a4, a5, a6, a7, a8, rfl⟩ := hp
      generalize S2.length = h at g ⊢
      walk_at "dl"
      refine ⟨h, _, 4, 3, rfl, g, by omega, by decide, by decide, by decide, fun S5 t f2 t0 t1 t2 => ?_⟩
      have g2 := f2.at g.lt
      have ok : TabsOk t := ⟨t0, by omega, fun x hx => Nat.le_trans (t2 x hx) (by decide)⟩
      walk_at "dl"
      refine ⟨h, _, t, 4, rfl, g2, by omega, ok.hi, ok.at_, by decide, by decide, fun S8 cs f5 okc => ?_⟩
      have g5 := f5.at g2.lt
      walk_at "dl"
      refine dab_at g5 (by decide) fun S9 u f6 g6 hz0 hz1 => ?_
      obtain ⟨n, rfl⟩ := Int.eq_ofNat_of_zero_le hz0
      refine dab_at g6 (by decide) fun Sa v f7 g7 hv0 hv1 => ?_
      walk_at "dl"
      refine ⟨h, _, t, cs, 4, n, _, rfl, g7, by omega, ok.hi, ok.at_, okc, by split <;> decide, by omega, fun Sb ss f8 l1 l3 l4 => ?_⟩
      have g8 := f8.at g7.lt
      refine ⟨t, ss, rfl, t1, by omega, l3, fun us X hul hus sp => ?_⟩
      walk_at "dl"
      refine lc_map us sgD (fun s => sgD (cutW s)) (small (by omega)) (fun s hs R hR => ?_) ?_
      · walk_at "dl"
        exact ⟨by decide, small (by decide), fun z => (nomatch z), fun z => (nomatch z), small (show 4 ≤ 1000000 by decide), hR⟩
      · rw [finF_e]
        have l3' := l3
        refine ⟨t, us.map cutW, X, by unfold sgsD; rw [List.map_map]; rfl, ok, ⟨by rw [List.length_map]; omega, fun s hs => ?_⟩, by rw [List.length_map]; omega, fun s hs => ?_, cut_spots sp, ?_⟩
        · obtain ⟨s, hm, rfl⟩ := List.mem_map.mp hs
          exact (cutW_ok (l3 s (hus s hm))).1
        · obtain ⟨s, hm, rfl⟩ := List.mem_map.mp hs
          exact (cutW_ok (l3 s (hus s hm))).2
        · refine ⟨true, rfl, ?_⟩
          rw [if_neg (by decide)]
          exact ⟨g8.mono (by omega), _, _, _, _, _, _, rfl⟩
    · obtain ⟨_, a3, a4, a5, a6, a7, a8, rfl⟩ := hp
      exact ⟨_, _, _, _, _, _, _, _, rfl⟩
  · walk_at "dl"
    have ok : TabsOk [1, 1, 1] := ⟨by decide, by decide, by decide⟩
    have so0 : SgOk [1, 1, 1] ⟨0, 0, 1, 3⟩ := ⟨by decide, by decide, by decide, by decide, by decide, fun i h1 h2 => by
      rcases (show i = 0 ∨ i = 1 by have h2 : i ≤ 1 := h2; omega) with rfl | rfl <;> decide⟩
    have so1 : SgOk [1, 1, 1] ⟨0, 1, 2, 2⟩ := ⟨by decide, by decide, by decide, by decide, by decide, fun i h1 h2 => by
      rcases (show i = 0 ∨ i = 1 ∨ i = 2 by have h2 : i ≤ 2 := h2; omega) with rfl | rfl | rfl <;> decide⟩
    refine ⟨small (by decide), small (by decide), small (by decide), small (by decide), small (by decide), small (by decide), small (by decide), small (by decide), [1, 1, 1], [⟨0, 0, 1, 3⟩, ⟨0, 1, 2, 2⟩], [(0, 0), (1, 0), (2, 0)], rfl, ok, ⟨by decide, allc so0 (allc so1 all0)⟩, by decide, allc (by decide) (allc (by decide) all0), ⟨by decide, by decide, fun x => ?_⟩, ret_now (q _)⟩
    obtain ⟨a, b⟩ := x
    simp only [List.mem_cons, List.not_mem_nil, or_false, exists_eq_or_imp, exists_eq_left, hasB_iff, Prod.mk.injEq]
    omega
end DL
namespace DL
open PySem PySem.Spec PyProof.Rows L2
theorem sc_is_whole : FnScope N_is_whole P_is_whole (defScope s_is_whole) := ⟨rfl, rfl, rfl, by decide +kernel, rfl, by decide +kernel, by decide +kernel⟩
theorem d_is_whole {P : Program} {wd : World} {K : PySem.W.Frag} {mg : Str → Option Value} {base : Heap} {f : Addr} {cdv : Value} {A : Around} {outer : List Env} {s : Shared} {H : Hp} {E : XK} (hG : (A.deeper (envOfC "is_whole" (defScope s_is_whole) s.heap.objs.size f cdv)).guards = some []) (hr : Room 0 (A.deeper (envOfC "is_whole" (defScope s_is_whole) s.heap.objs.size f cdv))) (m_int : mg "int" = none) (m_isinstance : mg "isinstance" = none) (m_bool : mg "bool" = none) :
    ∃ t, JB (cxOf (L2.CX P wd) P wd K mg base N_is_whole "is_whole" (defScope s_is_whole) f cdv A outer s H E) (WD E) (defBody s_is_whole) t T_is_whole := by
  have hu : (A.deeper (envOfC "is_whole" (defScope s_is_whole) s.heap.objs.size f cdv)).units + 64 < cLine := hr.units
  exact ⟨_, (jb_one (js_ret (je_and (je_callB call_isi cd_isi rfl m_isinstance (by decide +kernel) (ja_cons (je_var 0) (ja_cons (je_ty rfl m_int (by decide +kernel)) ja_nil))) (je_and (je_not (je_callB call_isi cd_isi rfl m_isinstance (by decide +kernel) (ja_cons (je_var 0) (ja_cons (je_ty rfl m_bool (by decide +kernel)) ja_nil)))) (je_one (je_chain op_le op_le opd_le opd_le (je_var 1) (je_var 0) (je_var 2)))))))⟩
theorem sc_are_tabs : FnScope N_are_tabs P_are_tabs (defScope s_are_tabs) := ⟨rfl, rfl, rfl, by decide +kernel, rfl, by decide +kernel, by decide +kernel⟩
theorem d_are_tabs {P : Program} {wd : World} {K : PySem.W.Frag} {mg : Str → Option Value} {base : Heap} {f : Addr} {cdv : Value} {A : Around} {outer : List Env} {s : Shared} {H : Hp} {E : XK} (hG : (A.deeper (envOfC "are_tabs" (defScope s_are_tabs) s.heap.objs.size f cdv)).guards = some []) (hr : Room 1 (A.deeper (envOfC "are_tabs" (defScope s_are_tabs) s.heap.objs.size f cdv))) (m_list : mg "list" = none) (m_isinstance : mg "isinstance" = none) (m_len : mg "len" = none) (g_MOST_LINES : ∃ t, mg "MOST_LINES" = some (.int 60 t)) (c_is_whole : CalG P wd K mg base "is_whole" s_is_whole 1 P_is_whole sp_is_whole) (g_MOST_TABS : ∃ t, mg "MOST_TABS" = some (.int 11 t)) (m_all : mg "all" = none) :
    ∃ t, JB (cxOf (L2.CX P wd) P wd K mg base N_are_tabs "are_tabs" (defScope s_are_tabs) f cdv A outer s H E) (WD E) (defBody s_are_tabs) t T_are_tabs := by
  have hu : (A.deeper (envOfC "are_tabs" (defScope s_are_tabs) s.heap.objs.size f cdv)).units + 64 < cLine := hr.units
  exact ⟨_, (jb_cons (js_if (JW.jt (jw_or (jt_not (jt_val (je_callB call_isi cd_isi rfl m_isinstance (by decide +kernel) (ja_cons (je_var 0) (ja_cons (je_ty rfl m_list (by decide +kernel)) ja_nil))))) (jw_or1 (jt_not (jt_chain op_le op_le opd_le opd_le je_int (je_callB call_lenA cd_len rfl m_len (by decide +kernel) (ja_cons (je_var 0) ja_nil)) (je_gint rfl g_MOST_LINES))))))
  (jb_one (js_ret je_bl))
  jb_nil)
  (jb_one (js_ret (je_callB (cr_all rfl) cd_all rfl m_all (by decide +kernel) (ja_cons (je_lc (own := ([("number", 1)] : List (Str × Nat))) finF finF_ok rfl sc_are_tabs.nd (ji_list (je_var 0)) (blkOk_by (N := N_are_tabs) (sc := defScope s_are_tabs) (by decide +kernel)) (fun _ _ _ _ _ => (jg_name 1 sc_are_tabs.nd)) (by exact (gk_name (vs := [1]) (i := 1))) (fun _ _ _ _ _ => jts_nil) (fun _ _ _ _ _ => (je_callCG c_is_whole hG (hr.mono (by decide)) rfl takes0 (ja_cons (je_var 1) (ja_cons je_int (ja_cons (je_gint rfl g_MOST_TABS) ja_nil)))))) ja_nil)))))⟩
theorem sc_is_sight : FnScope N_is_sight P_is_sight (defScope s_is_sight) := ⟨rfl, rfl, rfl, by decide +kernel, rfl, by decide +kernel, by decide +kernel⟩
theorem d_is_sight {P : Program} {wd : World} {K : PySem.W.Frag} {mg : Str → Option Value} {base : Heap} {f : Addr} {cdv : Value} {A : Around} {outer : List Env} {s : Shared} {H : Hp} {E : XK} (hG : (A.deeper (envOfC "is_sight" (defScope s_is_sight) s.heap.objs.size f cdv)).guards = some []) (hr : Room 1 (A.deeper (envOfC "is_sight" (defScope s_is_sight) s.heap.objs.size f cdv))) (m_tuple : mg "tuple" = none) (m_isinstance : mg "isinstance" = none) (m_len : mg "len" = none) (c_is_whole : CalG P wd K mg base "is_whole" s_is_whole 1 P_is_whole sp_is_whole) (g_MOST_TABS : ∃ t, mg "MOST_TABS" = some (.int 11 t)) (g_MOST_WIDTH : ∃ t, mg "MOST_WIDTH" = some (.int 1000000000000000000000000000000 t)) (m_all : mg "all" = none) :
    ∃ t, JB (cxOf (L2.CX P wd) P wd K mg base N_is_sight "is_sight" (defScope s_is_sight) f cdv A outer s H E) (WD E) (defBody s_is_sight) t T_is_sight := by
  have hu : (A.deeper (envOfC "is_sight" (defScope s_is_sight) s.heap.objs.size f cdv)).units + 64 < cLine := hr.units
  exact ⟨_, (jb_cons (js_if (JW.jt (jw_or (jt_not (jt_val (je_callB call_isi cd_isi rfl m_isinstance (by decide +kernel) (ja_cons (je_var 1) (ja_cons (je_ty rfl m_tuple (by decide +kernel)) ja_nil))))) (jw_or1 (jt_cmp (op_neD hu) opd_ne (je_callB call_lenA cd_len rfl m_len (by decide +kernel) (ja_cons (je_var 1) ja_nil)) je_int (nomark _)))))
  (jb_one (js_ret je_bl))
  jb_nil)
  (jb_cons (js_asg (je_var 1) (jg_tup rfl (jgs_cons (jg_name 2 sc_is_sight.nd) (jgs_cons (jg_name 3 sc_is_sight.nd) (jgs_cons (jg_name 4 sc_is_sight.nd) (jgs_cons (jg_name 5 sc_is_sight.nd) jgs_nil))))))
  (jb_cons (js_if (JW.jt (jw_or (jt_not (jt_val (je_callCG c_is_whole hG (hr.mono (by decide)) rfl (takes_of rfl rfl rfl rfl) (ja_cons (je_var 2) (ja_cons je_int (ja_cons (je_op op_sub opd_sub (je_gint rfl g_MOST_TABS) je_int) ja_nil)))))) (jw_or1 (jt_not (jt_val (je_callCG c_is_whole hG (hr.mono (by decide)) rfl (takes_of rfl rfl rfl rfl) (ja_cons (je_var 5) (ja_cons je_int (ja_cons (je_gint rfl g_MOST_WIDTH) ja_nil)))))))))
  (jb_one (js_ret je_bl))
  jb_nil)
  (jb_cons (js_if (JW.jt (jw_or (jt_not (jt_val (je_callCG c_is_whole hG (hr.mono (by decide)) rfl (takes_of rfl rfl rfl rfl) (ja_cons (je_var 3) (ja_cons je_int (ja_cons (je_op op_sub opd_sub (je_callB call_lenA cd_len rfl m_len (by decide +kernel) (ja_cons (je_var 0) ja_nil)) je_int) ja_nil)))))) (jw_or1 (jt_not (jt_val (je_callCG c_is_whole hG (hr.mono (by decide)) rfl (takes_of rfl rfl rfl rfl) (ja_cons (je_var 4) (ja_cons (je_var 3) (ja_cons (je_op op_sub opd_sub (je_callB call_lenA cd_len rfl m_len (by decide +kernel) (ja_cons (je_var 0) ja_nil)) je_int) ja_nil)))))))))
  (jb_one (js_ret je_bl))
  jb_nil)
  (jb_one (js_ret (je_callB (cr_all rfl) cd_all rfl m_all (by decide +kernel) (ja_cons (je_lc (own := ([("number", 6)] : List (Str × Nat))) finF finF_ok rfl sc_is_sight.nd (ji_list (je_slice sl_list sld_l (je_var 0) (jo_some (je_var 3)) (jo_some (je_op op_addA opd_add (je_var 4) je_int)))) (blkOk_by (N := N_is_sight) (sc := defScope s_is_sight) (by decide +kernel)) (fun _ _ _ _ _ => (jg_name 6 sc_is_sight.nd)) (by exact (gk_name (vs := [6]) (i := 6))) (fun _ _ _ _ _ => jts_nil) (fun _ _ _ _ _ => (je_cmp op_gt opd_gt (je_var 6) (je_var 2) (nomark _)))) ja_nil))))))))⟩
theorem sc_are_sights : FnScope N_are_sights P_are_sights (defScope s_are_sights) := ⟨rfl, rfl, rfl, by decide +kernel, rfl, by decide +kernel, by decide +kernel⟩
theorem d_are_sights {P : Program} {wd : World} {K : PySem.W.Frag} {mg : Str → Option Value} {base : Heap} {f : Addr} {cdv : Value} {A : Around} {outer : List Env} {s : Shared} {H : Hp} {E : XK} (hG : (A.deeper (envOfC "are_sights" (defScope s_are_sights) s.heap.objs.size f cdv)).guards = some []) (hr : Room 2 (A.deeper (envOfC "are_sights" (defScope s_are_sights) s.heap.objs.size f cdv))) (m_list : mg "list" = none) (m_isinstance : mg "isinstance" = none) (m_len : mg "len" = none) (g_MOST_SIGHTS : ∃ t, mg "MOST_SIGHTS" = some (.int 40 t)) (c_is_sight : CalG P wd K mg base "is_sight" s_is_sight 2 P_is_sight sp_is_sight) (m_all : mg "all" = none) :
    ∃ t, JB (cxOf (L2.CX P wd) P wd K mg base N_are_sights "are_sights" (defScope s_are_sights) f cdv A outer s H E) (WD E) (defBody s_are_sights) t T_are_sights := by
  have hu : (A.deeper (envOfC "are_sights" (defScope s_are_sights) s.heap.objs.size f cdv)).units + 64 < cLine := hr.units
  exact ⟨_, (jb_cons (js_if (JW.jt (jw_or (jt_not (jt_val (je_callB call_isi cd_isi rfl m_isinstance (by decide +kernel) (ja_cons (je_var 1) (ja_cons (je_ty rfl m_list (by decide +kernel)) ja_nil))))) (jw_or1 (jt_cmp op_gt opd_gt (je_callB call_lenA cd_len rfl m_len (by decide +kernel) (ja_cons (je_var 1) ja_nil)) (je_gint rfl g_MOST_SIGHTS) (nomark _)))))
  (jb_one (js_ret je_bl))
  jb_nil)
  (jb_one (js_ret (je_callB (cr_all rfl) cd_all rfl m_all (by decide +kernel) (ja_cons (je_lc (own := ([("sight", 2)] : List (Str × Nat))) finF finF_ok rfl sc_are_sights.nd (ji_list (je_var 1)) (blkOk_by (N := N_are_sights) (sc := defScope s_are_sights) (by decide +kernel)) (fun _ _ _ _ _ => (jg_name 2 sc_are_sights.nd)) (by exact (gk_name (vs := [2]) (i := 2))) (fun _ _ _ _ _ => jts_nil) (fun _ _ _ _ _ => (je_callCG c_is_sight hG (hr.mono (by decide)) rfl takes0 (ja_cons (je_var 0) (ja_cons (je_var 2) ja_nil))))) ja_nil)))))⟩
theorem sc_contains : FnScope N_contains P_contains (defScope s_contains) := ⟨rfl, rfl, rfl, by decide +kernel, rfl, by decide +kernel, by decide +kernel⟩
theorem d_contains {P : Program} {wd : World} {K : PySem.W.Frag} {mg : Str → Option Value} {base : Heap} {f : Addr} {cdv : Value} {A : Around} {outer : List Env} {s : Shared} {H : Hp} {E : XK} (hG : (A.deeper (envOfC "contains" (defScope s_contains) s.heap.objs.size f cdv)).guards = some []) (hr : Room 0 (A.deeper (envOfC "contains" (defScope s_contains) s.heap.objs.size f cdv)))  :
    ∃ t, JB (cxOf (L2.CX P wd) P wd K mg base N_contains "contains" (defScope s_contains) f cdv A outer s H E) (WD E) (defBody s_contains) t T_contains := by
  have hu : (A.deeper (envOfC "contains" (defScope s_contains) s.heap.objs.size f cdv)).units + 64 < cLine := hr.units
  exact ⟨_, (jb_one (js_ret (je_and (je_cmp op_eq opd_eqF (je_ix ix_seq opd_ix (je_var 0) je_int) (je_var 2) (nomark _)) (je_one (je_chain op_le op_le opd_le opd_le (je_ix ix_seq opd_ix (je_var 0) je_int) (je_var 1) (je_ix ix_seq opd_ix (je_var 0) je_int))))))⟩
theorem sc_count_marked : FnScope N_count_marked P_count_marked (defScope s_count_marked) := ⟨rfl, rfl, rfl, by decide +kernel, rfl, by decide +kernel, by decide +kernel⟩
theorem d_count_marked {P : Program} {wd : World} {K : PySem.W.Frag} {mg : Str → Option Value} {base : Heap} {f : Addr} {cdv : Value} {A : Around} {outer : List Env} {s : Shared} {H : Hp} {E : XK} (hG : (A.deeper (envOfC "count_marked" (defScope s_count_marked) s.heap.objs.size f cdv)).guards = some []) (hr : Room 0 (A.deeper (envOfC "count_marked" (defScope s_count_marked) s.heap.objs.size f cdv))) (m_range : mg "range" = none) (m_list : mg "list" = none) (m_sum : mg "sum" = none) (m_max : mg "max" = none) :
    ∃ t, JB (cxOf (L2.CX P wd) P wd K mg base N_count_marked "count_marked" (defScope s_count_marked) f cdv A outer s H E) (WD E) (defBody s_count_marked) t T_count_marked := by
  have hu : (A.deeper (envOfC "count_marked" (defScope s_count_marked) s.heap.objs.size f cdv)).units + 64 < cLine := hr.units
  exact ⟨_, (jb_cons (js_set 3 sc_count_marked.nd (je_dis1 (je_neg je_int) je_int))
  (jb_cons (js_for (passes_of rfl) rfl (ji_range1 rfl m_range (ja_cons (je_var 0) ja_nil)) (jg_name 4 sc_count_marked.nd)
  (jb_cons (js_lck 3 (js_setDc 5 (own := ([("last", 7), ("number", 8)] : List (Str × Nat))) rfl sc_count_marked.nd (ji_items 3) (blkOk_by (N := N_count_marked) (sc := defScope s_count_marked) (by decide +kernel)) (fun _ _ _ _ _ => (jg_tup rfl (jgs_cons (jg_name 7 sc_count_marked.nd) (jgs_cons (jg_name 8 sc_count_marked.nd) jgs_nil)))) (by exact (gk_tup (gks_name (vs := [7, 8]) (i := 7) (gks_name (vs := [7, 8]) (i := 8) (gks_nil (vs := [7, 8])))))) (fun _ _ _ _ _ => jts_nil) (fun _ _ _ _ _ => (je_var 7)) (fun _ _ _ _ _ => (je_op op_mulA opd_mul (je_var 8) (je_var 2)))))
  (jb_cons (js_dkp hu (je_var 5) (je_var 4) (je_callB (cr_sum rfl) cd_sum rfl m_sum (by decide +kernel) (ja_cons (je_lvals rfl (je_var 3) rfl m_list) ja_nil)))
  (jb_cons (js_set 6 sc_count_marked.nd (je_callB (cr_max rfl) cd_max rfl m_max (by decide +kernel) (ja_cons (je_op op_addA opd_add (je_lc (own := ([("first", 9), ("end", 10)] : List (Str × Nat))) finF finF_ok rfl sc_count_marked.nd (ji_list (je_var 1)) (blkOk_by (N := N_count_marked) (sc := defScope s_count_marked) (by decide +kernel)) (fun _ _ _ _ _ => (jg_tup rfl (jgs_cons (jg_name 9 sc_count_marked.nd) (jgs_cons (jg_name 10 sc_count_marked.nd) jgs_nil)))) (by exact (gk_tup (gks_name (vs := [9, 10]) (i := 9) (gks_name (vs := [9, 10]) (i := 10) (gks_nil (vs := [9, 10])))))) (fun _ _ _ _ _ => (jts_one (jt_cmp op_eq opd_eqF (je_var 10) (je_var 4) (nomark _)))) (fun _ _ _ _ _ => (je_var 9))) (je_lst (ja_cons (je_neg je_int) ja_nil))) ja_nil)))
  (jb_one (js_lck 5 (js_setDc 3 (own := ([("last", 7), ("number", 8)] : List (Str × Nat))) rfl sc_count_marked.nd (ji_items 5) (blkOk_by (N := N_count_marked) (sc := defScope s_count_marked) (by decide +kernel)) (fun _ _ _ _ _ => (jg_tup rfl (jgs_cons (jg_name 7 sc_count_marked.nd) (jgs_cons (jg_name 8 sc_count_marked.nd) jgs_nil)))) (by exact (gk_tup (gks_name (vs := [7, 8]) (i := 7) (gks_name (vs := [7, 8]) (i := 8) (gks_nil (vs := [7, 8])))))) (fun _ _ _ _ _ => (jts_one (jt_cmp op_ge opd_ge (je_var 7) (je_var 6) (nomark _)))) (fun _ _ _ _ _ => (je_var 7)) (fun _ _ _ _ _ => (je_var 8)))))))))
  (jb_one (js_ret (je_callB (cr_sum rfl) cd_sum rfl m_sum (by decide +kernel) (ja_cons (je_lvals rfl (je_var 3) rfl m_list) ja_nil))))))⟩
theorem sc_Sights___init__ : FnScope N_Sights___init__ P_Sights___init__ (defScope s_Sights___init__) := ⟨rfl, rfl, rfl, by decide +kernel, rfl, by decide +kernel, by decide +kernel⟩
theorem d_Sights___init__ {C_InvalidTabs C_InvalidSights C_Sights : Addr} {P : Program} {wd : World} {K : PySem.W.Frag} {mg : Str → Option Value} {base : Heap} {f : Addr} {cdv : Value} {A : Around} {outer : List Env} {s : Shared} {H : Hp} {E : XK} (hG : (A.deeper (envOfC "Sights.__init__" (defScope s_Sights___init__) s.heap.objs.size f cdv)).guards = some []) (hr : Room 3 (A.deeper (envOfC "Sights.__init__" (defScope s_Sights___init__) s.heap.objs.size f cdv))) (c_are_tabs : CalG P wd K mg base "are_tabs" s_are_tabs 2 P_are_tabs sp_are_tabs) (e_InvalidTabs : ExcF K mg "InvalidTabs" C_InvalidTabs) (c_are_sights : CalG P wd K mg base "are_sights" s_are_sights 3 P_are_sights sp_are_sights) (e_InvalidSights : ExcF K mg "InvalidSights" C_InvalidSights) (m_list : mg "list" = none) (cl_Sights : Cls K C_Sights) (na_Sights_held_tabs : NoAttr K C_Sights "held_tabs") (na_Sights_held_sights : NoAttr K C_Sights "held_sights") :
    ∃ t, JB (cxOf (L2.CX P wd) P wd K mg base N_Sights___init__ "Sights.__init__" (defScope s_Sights___init__) f cdv A outer s H E) (WD E) (defBody s_Sights___init__) t (T_Sights___init__ C_InvalidTabs C_InvalidSights C_Sights) := by
  have hu : (A.deeper (envOfC "Sights.__init__" (defScope s_Sights___init__) s.heap.objs.size f cdv)).units + 64 < cLine := hr.units
  exact ⟨_, (jb_cons (js_if (jt_not (jt_val (je_callCG c_are_tabs hG (hr.mono (by decide)) rfl (takes_of rfl rfl rfl rfl) (ja_cons (je_var 1) ja_nil))))
  (jb_one (js_raiseC e_InvalidTabs rfl (takes_of rfl rfl rfl rfl) rfl))
  jb_nil)
  (jb_cons (js_if (jt_not (jt_val (je_callCG c_are_sights hG (hr.mono (by decide)) rfl (takes_of rfl rfl rfl rfl) (ja_cons (je_var 1) (ja_cons (je_var 2) ja_nil)))))
  (jb_one (js_raiseC e_InvalidSights rfl (takes_of rfl rfl rfl rfl) rfl))
  jb_nil)
  (jb_cons (js_fld cl_Sights na_Sights_held_tabs (je_var 0) (je_callTy call_list_of cd_list rfl m_list (by decide +kernel) (ja_cons (je_var 1) ja_nil)))
  (jb_one (js_fld cl_Sights na_Sights_held_sights (je_var 0) (je_callTy call_list_of cd_list rfl m_list (by decide +kernel) (ja_cons (je_var 2) ja_nil)))))))⟩
theorem sc_Sights_least_widths : FnScope N_Sights_least_widths P_Sights_least_widths (defScope s_Sights_least_widths) := ⟨rfl, rfl, rfl, by decide +kernel, rfl, by decide +kernel, by decide +kernel⟩
theorem d_Sights_least_widths {C_Sights : Addr} {P : Program} {wd : World} {K : PySem.W.Frag} {mg : Str → Option Value} {base : Heap} {f : Addr} {cdv : Value} {A : Around} {outer : List Env} {s : Shared} {H : Hp} {E : XK} (hG : (A.deeper (envOfC "Sights.least_widths" (defScope s_Sights_least_widths) s.heap.objs.size f cdv)).guards = some []) (hr : Room 0 (A.deeper (envOfC "Sights.least_widths" (defScope s_Sights_least_widths) s.heap.objs.size f cdv))) (cl_Sights : Cls K C_Sights) (na_Sights_held_tabs : NoAttr K C_Sights "held_tabs") (na_Sights_held_sights : NoAttr K C_Sights "held_sights") (m_min : mg "min" = none) :
    ∃ t, JB (cxOf (L2.CX P wd) P wd K mg base N_Sights_least_widths "Sights.least_widths" (defScope s_Sights_least_widths) f cdv A outer s H E) (WD E) (defBody s_Sights_least_widths) t (T_Sights_least_widths C_Sights) := by
  have hu : (A.deeper (envOfC "Sights.least_widths" (defScope s_Sights_least_widths) s.heap.objs.size f cdv)).units + 64 < cLine := hr.units
  exact ⟨_, (jb_cons (js_setLc 1 (own := ([("number", 7)] : List (Str × Nat))) finO finO_ok rfl sc_Sights_least_widths.nd (ji_list (je_fld cl_Sights na_Sights_held_tabs (je_var 0))) (blkOk_by (N := N_Sights_least_widths) (sc := defScope s_Sights_least_widths) (by decide +kernel)) (fun _ _ _ _ _ => (jg_name 7 sc_Sights_least_widths.nd)) (by exact (gk_name (vs := [7]) (i := 7))) (fun _ _ _ _ _ => jts_nil) (fun _ _ _ _ _ => (je_op op_mulA opd_mulO (je_lst (ja_cons je_non ja_nil)) (je_var 7))))
  (jb_cons (js_for (passes_of rfl) rfl (ji_list (je_fld cl_Sights na_Sights_held_sights (je_var 0))) (jg_tup rfl (jgs_cons (jg_name 2 sc_Sights_least_widths.nd) (jgs_cons (jg_name 3 sc_Sights_least_widths.nd) (jgs_cons (jg_name 4 sc_Sights_least_widths.nd) (jgs_cons (jg_name 5 sc_Sights_least_widths.nd) jgs_nil)))))
  (jb_one (js_for (passes_of rfl) rfl (ji_list (je_slice sl_list sld_l (je_var 1) (jo_some (je_var 3)) (jo_some (je_op op_addA opd_add (je_var 4) je_int)))) (jg_name 6 sc_Sights_least_widths.nd)
  (jb_one (js_asg (je_if (jt_cmp op_isN opd_isN (je_ix ix_seq opd_ix (je_var 6) (je_var 2)) je_non (nomark _)) (je_var 5) (je_callB (call_min2 rfl) cd_min2 rfl m_min (by decide +kernel) (ja_cons (je_var 5) (ja_cons (je_ix ix_seq opd_ix (je_var 6) (je_var 2)) ja_nil)))) (jg_sub (je_var 6) (je_var 2) set_list setd_o))))))
  (jb_one (js_ret (je_var 1)))))⟩
theorem sc_Sights_lesser_sight : FnScope N_Sights_lesser_sight P_Sights_lesser_sight (defScope s_Sights_lesser_sight) := ⟨rfl, rfl, rfl, by decide +kernel, rfl, by decide +kernel, by decide +kernel⟩
theorem d_Sights_lesser_sight {C_Sights : Addr} {P : Program} {wd : World} {K : PySem.W.Frag} {mg : Str → Option Value} {base : Heap} {f : Addr} {cdv : Value} {A : Around} {outer : List Env} {s : Shared} {H : Hp} {E : XK} (hG : (A.deeper (envOfC "Sights.lesser_sight" (defScope s_Sights_lesser_sight) s.heap.objs.size f cdv)).guards = some []) (hr : Room 1 (A.deeper (envOfC "Sights.lesser_sight" (defScope s_Sights_lesser_sight) s.heap.objs.size f cdv))) (cl_Sights : Cls K C_Sights) (na_Sights_held_sights : NoAttr K C_Sights "held_sights") (m_enumerate : mg "enumerate" = none) (c_contains : CalG P wd K mg base "contains" s_contains 1 P_contains sp_contains) :
    ∃ t, JB (cxOf (L2.CX P wd) P wd K mg base N_Sights_lesser_sight "Sights.lesser_sight" (defScope s_Sights_lesser_sight) f cdv A outer s H E) (WD E) (defBody s_Sights_lesser_sight) t (T_Sights_lesser_sight C_Sights) := by
  have hu : (A.deeper (envOfC "Sights.lesser_sight" (defScope s_Sights_lesser_sight) s.heap.objs.size f cdv)).units + 64 < cLine := hr.units
  exact ⟨_, (jb_cons (js_for (passes_of rfl) rfl (ji_enum rfl m_enumerate (ja_cons (je_fld cl_Sights na_Sights_held_sights (je_var 0)) ja_nil)) (jg_tup rfl (jgs_cons (jg_name 4 sc_Sights_lesser_sight.nd) (jgs_cons (jg_name 5 sc_Sights_lesser_sight.nd) jgs_nil)))
  (jb_one (js_if (JW.jt (jw_and (jt_val (je_callCG c_contains hG (hr.mono (by decide)) rfl (takes_of rfl rfl rfl rfl) (ja_cons (je_var 5) (ja_cons (je_var 1) (ja_cons (je_var 2) ja_nil))))) (jw_and1 (jt_cmp op_lt opd_lt (je_ix ix_seq opd_ix (je_var 5) je_int) (je_var 3) (nomark _)))))
  (jb_one (js_ret (je_var 4)))
  jb_nil)))
  (jb_one (js_ret je_non)))⟩
theorem sc_Sights_conflict : FnScope N_Sights_conflict P_Sights_conflict (defScope s_Sights_conflict) := ⟨rfl, rfl, rfl, by decide +kernel, rfl, by decide +kernel, by decide +kernel⟩
theorem d_Sights_conflict {C_Sights : Addr} {P : Program} {wd : World} {K : PySem.W.Frag} {mg : Str → Option Value} {base : Heap} {f : Addr} {cdv : Value} {A : Around} {outer : List Env} {s : Shared} {H : Hp} {E : XK} (hG : (A.deeper (envOfC "Sights.conflict" (defScope s_Sights_conflict) s.heap.objs.size f cdv)).guards = some []) (hr : Room 2 (A.deeper (envOfC "Sights.conflict" (defScope s_Sights_conflict) s.heap.objs.size f cdv))) (mt_Sights_least_widths_1 : MethK P wd K mg base C_Sights "least_widths" 1 ([] : List Str) (pkP 1 [0] [] (sp_Sights_least_widths C_Sights))) (cl_Sights : Cls K C_Sights) (na_Sights_held_sights : NoAttr K C_Sights "held_sights") (m_enumerate : mg "enumerate" = none) (m_max : mg "max" = none) (m_range : mg "range" = none) (mt_Sights_lesser_sight_4 : MethK P wd K mg base C_Sights "lesser_sight" 2 ([] : List Str) (pkP 4 [0, 1, 2, 3] [] (sp_Sights_lesser_sight C_Sights))) :
    ∃ t, JB (cxOf (L2.CX P wd) P wd K mg base N_Sights_conflict "Sights.conflict" (defScope s_Sights_conflict) f cdv A outer s H E) (WD E) (defBody s_Sights_conflict) t (T_Sights_conflict C_Sights) := by
  have hu : (A.deeper (envOfC "Sights.conflict" (defScope s_Sights_conflict) s.heap.objs.size f cdv)).units + 64 < cLine := hr.units
  exact ⟨_, (jb_cons (js_set 1 sc_Sights_conflict.nd (je_methA mt_Sights_least_widths_1 hG (hr.mono (by decide)) (takes_of rfl rfl rfl rfl) (je_var 0) (jc_nil (ks := ([] : List Str)) jk_nil)))
  (jb_cons (js_for (passes_of rfl) rfl (ji_enum rfl m_enumerate (ja_cons (je_fld cl_Sights na_Sights_held_sights (je_var 0)) ja_nil)) (jg_tup rfl (jgs_cons (jg_name 2 sc_Sights_conflict.nd) (jgs_cons (jg_tup rfl (jgs_cons (jg_name 3 sc_Sights_conflict.nd) (jgs_cons (jg_name 4 sc_Sights_conflict.nd) (jgs_cons (jg_name 5 sc_Sights_conflict.nd) (jgs_cons (jg_name 6 sc_Sights_conflict.nd) jgs_nil))))) jgs_nil)))
  (jb_one (js_if (jt_cmp op_lt opd_lt (je_callB (cr_max rfl) cd_max rfl m_max (by decide +kernel) (ja_cons (je_lc (own := ([("row", 7)] : List (Str × Nat))) finF finF_ok rfl sc_Sights_conflict.nd (ji_list (je_slice sl_list sld_l (je_var 1) (jo_some (je_var 4)) (jo_some (je_op op_addA opd_add (je_var 5) je_int)))) (blkOk_by (N := N_Sights_conflict) (sc := defScope s_Sights_conflict) (by decide +kernel)) (fun _ _ _ _ _ => (jg_name 7 sc_Sights_conflict.nd)) (by exact (gk_name (vs := [7]) (i := 7))) (fun _ _ _ _ _ => jts_nil) (fun _ _ _ _ _ => (je_ix ix_seq opd_ix (je_var 7) (je_var 3)))) ja_nil)) (je_var 6) (nomark _))
  (jb_one (js_ret (je_tup (ja_cons (je_var 2) (ja_cons (je_lc (own := ([("line", 8)] : List (Str × Nat))) finF finF_ok rfl sc_Sights_conflict.nd (ji_range2 rfl m_range (ja_cons (je_var 4) (ja_cons (je_op op_addA opd_add (je_var 5) je_int) ja_nil))) (blkOk_by (N := N_Sights_conflict) (sc := defScope s_Sights_conflict) (by decide +kernel)) (fun _ _ _ _ _ => (jg_name 8 sc_Sights_conflict.nd)) (by exact (gk_name (vs := [8]) (i := 8))) (fun _ _ _ _ _ => jts_nil) (fun _ _ _ _ _ => (je_methA mt_Sights_lesser_sight_4 hG (hr.mono (by decide)) takes0 (je_var 0) (jc_cons (ks := ([] : List Str)) (ja_cons (je_var 8) (ja_cons (je_var 3) (ja_cons (je_var 6) ja_nil))) jk_nil)))) ja_nil)))))
  jb_nil)))
  (jb_one (js_ret je_non))))⟩
theorem sc_Sights_agreed_widths : FnScope N_Sights_agreed_widths P_Sights_agreed_widths (defScope s_Sights_agreed_widths) := ⟨rfl, rfl, rfl, by decide +kernel, rfl, by decide +kernel, by decide +kernel⟩
theorem d_Sights_agreed_widths {C_Sights C_NotPossible : Addr} {P : Program} {wd : World} {K : PySem.W.Frag} {mg : Str → Option Value} {base : Heap} {f : Addr} {cdv : Value} {A : Around} {outer : List Env} {s : Shared} {H : Hp} {E : XK} (hG : (A.deeper (envOfC "Sights.agreed_widths" (defScope s_Sights_agreed_widths) s.heap.objs.size f cdv)).guards = some []) (hr : Room 3 (A.deeper (envOfC "Sights.agreed_widths" (defScope s_Sights_agreed_widths) s.heap.objs.size f cdv))) (mt_Sights_conflict_1 : MethK P wd K mg base C_Sights "conflict" 3 ([] : List Str) (pkP 1 [0] [] (sp_Sights_conflict C_Sights))) (xi_NotPossible : XIni P wd K mg base "NotPossible" C_NotPossible 1 "reason") (mt_Sights_least_widths_1 : MethK P wd K mg base C_Sights "least_widths" 1 ([] : List Str) (pkP 1 [0] [] (sp_Sights_least_widths C_Sights))) :
    ∃ t, JB (cxOf (L2.CX P wd) P wd K mg base N_Sights_agreed_widths "Sights.agreed_widths" (defScope s_Sights_agreed_widths) f cdv A outer s H E) (WD E) (defBody s_Sights_agreed_widths) t (T_Sights_agreed_widths C_Sights C_NotPossible) := by
  have hu : (A.deeper (envOfC "Sights.agreed_widths" (defScope s_Sights_agreed_widths) s.heap.objs.size f cdv)).units + 64 < cLine := hr.units
  exact ⟨_, (jb_cons (js_set 1 sc_Sights_agreed_widths.nd (je_methA mt_Sights_conflict_1 hG (hr.mono (by decide)) (takes_of rfl rfl rfl rfl) (je_var 0) (jc_nil (ks := ([] : List Str)) jk_nil)))
  (jb_cons (js_if (jt_cmp op_notN opd_notN (je_var 1) je_non (nomark _))
  (jb_one (js_raiseX xi_NotPossible rfl (takes_of rfl rfl rfl rfl) (hr.mono (by decide)) rfl (je_var 1)))
  jb_nil)
  (jb_one (js_ret (je_methA mt_Sights_least_widths_1 hG (hr.mono (by decide)) (takes_of rfl rfl rfl rfl) (je_var 0) (jc_nil (ks := ([] : List Str)) jk_nil))))))⟩
theorem sc_Sights_bounds : FnScope N_Sights_bounds P_Sights_bounds (defScope s_Sights_bounds) := ⟨rfl, rfl, rfl, by decide +kernel, rfl, by decide +kernel, by decide +kernel⟩
theorem d_Sights_bounds {C_Sights C_NotPossible : Addr} {P : Program} {wd : World} {K : PySem.W.Frag} {mg : Str → Option Value} {base : Heap} {f : Addr} {cdv : Value} {A : Around} {outer : List Env} {s : Shared} {H : Hp} {E : XK} (hG : (A.deeper (envOfC "Sights.bounds" (defScope s_Sights_bounds) s.heap.objs.size f cdv)).guards = some []) (hr : Room 4 (A.deeper (envOfC "Sights.bounds" (defScope s_Sights_bounds) s.heap.objs.size f cdv))) (mt_Sights_agreed_widths_1 : MethK P wd K mg base C_Sights "agreed_widths" 4 ([] : List Str) (pkP 1 [0] [] (sp_Sights_agreed_widths C_Sights C_NotPossible))) :
    ∃ t, JB (cxOf (L2.CX P wd) P wd K mg base N_Sights_bounds "Sights.bounds" (defScope s_Sights_bounds) f cdv A outer s H E) (WD E) (defBody s_Sights_bounds) t (T_Sights_bounds C_Sights C_NotPossible) := by
  have hu : (A.deeper (envOfC "Sights.bounds" (defScope s_Sights_bounds) s.heap.objs.size f cdv)).units + 64 < cLine := hr.units
  exact ⟨_, (jb_one (js_ret (je_methA mt_Sights_agreed_widths_1 hG (hr.mono (by decide)) (takes_of rfl rfl rfl rfl) (je_var 0) (jc_nil (ks := ([] : List Str)) jk_nil))))⟩
theorem sc_Sights_cell_range : FnScope N_Sights_cell_range P_Sights_cell_range (defScope s_Sights_cell_range) := ⟨rfl, rfl, rfl, by decide +kernel, rfl, by decide +kernel, by decide +kernel⟩
theorem d_Sights_cell_range {C_Sights C_InvalidLine C_InvalidColumn C_NotPossible : Addr} {P : Program} {wd : World} {K : PySem.W.Frag} {mg : Str → Option Value} {base : Heap} {f : Addr} {cdv : Value} {A : Around} {outer : List Env} {s : Shared} {H : Hp} {E : XK} (hG : (A.deeper (envOfC "Sights.cell_range" (defScope s_Sights_cell_range) s.heap.objs.size f cdv)).guards = some []) (hr : Room 4 (A.deeper (envOfC "Sights.cell_range" (defScope s_Sights_cell_range) s.heap.objs.size f cdv))) (c_is_whole : CalG P wd K mg base "is_whole" s_is_whole 1 P_is_whole sp_is_whole) (cl_Sights : Cls K C_Sights) (na_Sights_held_tabs : NoAttr K C_Sights "held_tabs") (m_len : mg "len" = none) (e_InvalidLine : ExcF K mg "InvalidLine" C_InvalidLine) (e_InvalidColumn : ExcF K mg "InvalidColumn" C_InvalidColumn) (mt_Sights_agreed_widths_1 : MethK P wd K mg base C_Sights "agreed_widths" 4 ([] : List Str) (pkP 1 [0] [] (sp_Sights_agreed_widths C_Sights C_NotPossible))) (na_Sights_held_sights : NoAttr K C_Sights "held_sights") (c_contains : CalG P wd K mg base "contains" s_contains 1 P_contains sp_contains) :
    ∃ t, JB (cxOf (L2.CX P wd) P wd K mg base N_Sights_cell_range "Sights.cell_range" (defScope s_Sights_cell_range) f cdv A outer s H E) (WD E) (defBody s_Sights_cell_range) t (T_Sights_cell_range C_Sights C_InvalidLine C_InvalidColumn C_NotPossible) := by
  have hu : (A.deeper (envOfC "Sights.cell_range" (defScope s_Sights_cell_range) s.heap.objs.size f cdv)).units + 64 < cLine := hr.units
  exact ⟨_, (jb_cons (js_if (jt_not (jt_val (je_callCG c_is_whole hG (hr.mono (by decide)) rfl (takes_of rfl rfl rfl rfl) (ja_cons (je_var 1) (ja_cons je_int (ja_cons (je_op op_sub opd_sub (je_callB call_lenA cd_len rfl m_len (by decide +kernel) (ja_cons (je_fld cl_Sights na_Sights_held_tabs (je_var 0)) ja_nil)) je_int) ja_nil))))))
  (jb_one (js_raiseC e_InvalidLine rfl (takes_of rfl rfl rfl rfl) rfl))
  jb_nil)
  (jb_cons (js_if (jt_not (jt_val (je_callCG c_is_whole hG (hr.mono (by decide)) rfl (takes_of rfl rfl rfl rfl) (ja_cons (je_var 2) (ja_cons je_int (ja_cons (je_op op_sub opd_sub (je_ix ix_seq opd_ix (je_fld cl_Sights na_Sights_held_tabs (je_var 0)) (je_var 1)) je_int) ja_nil))))))
  (jb_one (js_raiseC e_InvalidColumn rfl (takes_of rfl rfl rfl rfl) rfl))
  jb_nil)
  (jb_cons (js_set 3 sc_Sights_cell_range.nd (je_methA mt_Sights_agreed_widths_1 hG (hr.mono (by decide)) (takes_of rfl rfl rfl rfl) (je_var 0) (jc_nil (ks := ([] : List Str)) jk_nil)))
  (jb_cons (js_set 4 sc_Sights_cell_range.nd (je_ix ix_seq opd_ix (je_ix ix_seq opd_ix (je_var 3) (je_var 1)) (je_var 2)))
  (jb_cons (js_if (jt_cmp op_isN opd_isN (je_var 4) je_non (nomark _))
  (jb_one (js_ret je_non))
  jb_nil)
  (jb_cons (js_for (passes_of rfl) rfl (ji_list (je_fld cl_Sights na_Sights_held_sights (je_var 0))) (jg_name 5 sc_Sights_cell_range.nd)
  (jb_one (js_if (JW.jt (jw_and (jt_val (je_callCG c_contains hG (hr.mono (by decide)) rfl (takes_of rfl rfl rfl rfl) (ja_cons (je_var 5) (ja_cons (je_var 1) (ja_cons (je_var 2) ja_nil))))) (jw_and1 (jt_cmp op_eq opd_eqF (je_ix ix_seq opd_ix (je_var 5) je_int) (je_var 4) (nomark _)))))
  (jb_one (js_if (jt_cmp op_eq opd_eqF (je_bm PySem.F.slot_list_count PySem.F.type_list_count mt_cntF mtd_cnt (je_lc (own := ([("row", 6)] : List (Str × Nat))) finF finF_ok rfl sc_Sights_cell_range.nd (ji_list (je_slice sl_list sld_l (je_var 3) (jo_some (je_ix ix_seq opd_ix (je_var 5) je_int)) (jo_some (je_op op_addA opd_add (je_ix ix_seq opd_ix (je_var 5) je_int) je_int)))) (blkOk_by (N := N_Sights_cell_range) (sc := defScope s_Sights_cell_range) (by decide +kernel)) (fun _ _ _ _ _ => (jg_name 6 sc_Sights_cell_range.nd)) (by exact (gk_name (vs := [6]) (i := 6))) (fun _ _ _ _ _ => jts_nil) (fun _ _ _ _ _ => (je_ix ix_seq opd_ix (je_var 6) (je_var 2)))) (ja_cons (je_var 4) ja_nil)) je_int (nomark _))
  (jb_one (js_ret (je_tup (ja_cons (je_var 4) (ja_cons (je_var 4) ja_nil)))))
  jb_nil))
  jb_nil)))
  (jb_one (js_ret (je_tup (ja_cons je_int (ja_cons (je_var 4) ja_nil)))))))))))⟩
theorem sc_Sights_ways : FnScope N_Sights_ways P_Sights_ways (defScope s_Sights_ways) := ⟨rfl, rfl, rfl, by decide +kernel, rfl, by decide +kernel, by decide +kernel⟩
theorem d_Sights_ways {C_Sights C_NotPossible : Addr} {P : Program} {wd : World} {K : PySem.W.Frag} {mg : Str → Option Value} {base : Heap} {f : Addr} {cdv : Value} {A : Around} {outer : List Env} {s : Shared} {H : Hp} {E : XK} (hG : (A.deeper (envOfC "Sights.ways" (defScope s_Sights_ways) s.heap.objs.size f cdv)).guards = some []) (hr : Room 4 (A.deeper (envOfC "Sights.ways" (defScope s_Sights_ways) s.heap.objs.size f cdv))) (mt_Sights_agreed_widths_1 : MethK P wd K mg base C_Sights "agreed_widths" 4 ([] : List Str) (pkP 1 [0] [] (sp_Sights_agreed_widths C_Sights C_NotPossible))) (cl_Sights : Cls K C_Sights) (na_Sights_held_sights : NoAttr K C_Sights "held_sights") (m_sorted : mg "sorted" = none) (m_enumerate : mg "enumerate" = none) (m_len : mg "len" = none) (c_count_marked : CalG P wd K mg base "count_marked" s_count_marked 1 P_count_marked sp_count_marked) :
    ∃ t, JB (cxOf (L2.CX P wd) P wd K mg base N_Sights_ways "Sights.ways" (defScope s_Sights_ways) f cdv A outer s H E) (WD E) (defBody s_Sights_ways) t (T_Sights_ways C_Sights C_NotPossible) := by
  have hu : (A.deeper (envOfC "Sights.ways" (defScope s_Sights_ways) s.heap.objs.size f cdv)).units + 64 < cLine := hr.units
  exact ⟨_, (jb_cons (js_set 1 sc_Sights_ways.nd (je_methA mt_Sights_agreed_widths_1 hG (hr.mono (by decide)) (takes_of rfl rfl rfl rfl) (je_var 0) (jc_nil (ks := ([] : List Str)) jk_nil)))
  (jb_cons (js_set 2 sc_Sights_ways.nd je_int)
  (jb_cons (js_for (passes_of rfl) rfl (ji_list (je_ss (own := ([("sight", 12)] : List (Str × Nat))) rfl sc_Sights_ways.nd hu rfl m_sorted (ji_list (je_fld cl_Sights na_Sights_held_sights (je_var 0))) (blkOk_by (N := N_Sights_ways) (sc := defScope s_Sights_ways) (by decide +kernel)) (fun _ _ _ _ _ => (jg_name 12 sc_Sights_ways.nd)) (by exact (gk_name (vs := [12]) (i := 12))) (fun _ _ _ _ _ => (je_tup (ja_cons (je_ix ix_seq opd_ix (je_var 12) je_int) (ja_cons (je_ix ix_seq opd_ix (je_var 12) je_int) ja_nil)))))) (jg_tup rfl (jgs_cons (jg_name 3 sc_Sights_ways.nd) (jgs_cons (jg_name 4 sc_Sights_ways.nd) jgs_nil)))
  (jb_cons (js_setLc 5 (own := ([("line", 13), ("row", 14)] : List (Str × Nat))) finF finF_ok rfl sc_Sights_ways.nd (ji_enum rfl m_enumerate (ja_cons (je_var 1) ja_nil)) (blkOk_by (N := N_Sights_ways) (sc := defScope s_Sights_ways) (by decide +kernel)) (fun _ _ _ _ _ => (jg_tup rfl (jgs_cons (jg_name 13 sc_Sights_ways.nd) (jgs_cons (jg_name 14 sc_Sights_ways.nd) jgs_nil)))) (by exact (gk_tup (gks_name (vs := [13, 14]) (i := 13) (gks_name (vs := [13, 14]) (i := 14) (gks_nil (vs := [13, 14])))))) (fun _ _ _ _ _ => (jts_one (JW.jt (jw_and (jt_cmp op_lt opd_lt (je_var 3) (je_callB call_lenA cd_len rfl m_len (by decide +kernel) (ja_cons (je_var 14) ja_nil)) (nomark _)) (jw_and1 (jt_cmp op_eq opd_eqF (je_ix ix_seq opd_ix (je_var 14) (je_var 3)) (je_var 4) (nomark _))))))) (fun _ _ _ _ _ => (je_var 13)))
  (jb_cons (js_set 6 sc_Sights_ways.nd (je_lstO ja_nil))
  (jb_cons (js_for (passes_of rfl) rfl (ji_list (je_fld cl_Sights na_Sights_held_sights (je_var 0))) (jg_tup rfl (jgs_cons (jg_name 7 sc_Sights_ways.nd) (jgs_cons (jg_name 8 sc_Sights_ways.nd) (jgs_cons (jg_name 9 sc_Sights_ways.nd) (jgs_cons (jg_name 10 sc_Sights_ways.nd) jgs_nil)))))
  (jb_one (js_if (jt_cmp (op_eqD hu) opd_eq (je_tup (ja_cons (je_var 7) (ja_cons (je_var 10) ja_nil))) (je_tup (ja_cons (je_var 3) (ja_cons (je_var 4) ja_nil))) (nomark _))
  (jb_cons (js_setLc 11 (own := ([("spot", 15), ("line", 13)] : List (Str × Nat))) finF finF_ok rfl sc_Sights_ways.nd (ji_enum rfl m_enumerate (ja_cons (je_var 5) ja_nil)) (blkOk_by (N := N_Sights_ways) (sc := defScope s_Sights_ways) (by decide +kernel)) (fun _ _ _ _ _ => (jg_tup rfl (jgs_cons (jg_name 15 sc_Sights_ways.nd) (jgs_cons (jg_name 13 sc_Sights_ways.nd) jgs_nil)))) (by exact (gk_tup (gks_name (vs := [15, 13]) (i := 15) (gks_name (vs := [15, 13]) (i := 13) (gks_nil (vs := [15, 13])))))) (fun _ _ _ _ _ => (jts_one (jt_chain op_le op_le opd_le opd_le (je_var 8) (je_var 13) (je_var 9)))) (fun _ _ _ _ _ => (je_var 15)))
  (jb_one (js_expr (je_bm PySem.F.slot_list_append PySem.F.type_list_append mt_append mtd_append (je_var 6) (ja_cons (je_tup (ja_cons (je_ix ix_seq opd_ix (je_var 11) je_int) (ja_cons (je_ix ix_seq opd_ix (je_var 11) (je_neg je_int)) ja_nil))) ja_nil)))))
  jb_nil)))
  (jb_one (js_aug 2 sc_Sights_ways.nd (je_callCG c_count_marked hG (hr.mono (by decide)) rfl (takes_of rfl rfl rfl rfl) (ja_cons (je_callB call_lenA cd_len rfl m_len (by decide +kernel) (ja_cons (je_var 5) ja_nil)) (ja_cons (je_var 6) (ja_cons (je_var 4) ja_nil)))) ip_mulA ipd_mulI))))))
  (jb_one (js_ret (je_var 2))))))⟩
theorem sc_Sights_widest : FnScope N_Sights_widest P_Sights_widest (defScope s_Sights_widest) := ⟨rfl, rfl, rfl, by decide +kernel, rfl, by decide +kernel, by decide +kernel⟩
theorem d_Sights_widest {C_Sights C_NotPossible : Addr} {P : Program} {wd : World} {K : PySem.W.Frag} {mg : Str → Option Value} {base : Heap} {f : Addr} {cdv : Value} {A : Around} {outer : List Env} {s : Shared} {H : Hp} {E : XK} (hG : (A.deeper (envOfC "Sights.widest" (defScope s_Sights_widest) s.heap.objs.size f cdv)).guards = some []) (hr : Room 4 (A.deeper (envOfC "Sights.widest" (defScope s_Sights_widest) s.heap.objs.size f cdv))) (mt_Sights_agreed_widths_1 : MethK P wd K mg base C_Sights "agreed_widths" 4 ([] : List Str) (pkP 1 [0] [] (sp_Sights_agreed_widths C_Sights C_NotPossible))) :
    ∃ t, JB (cxOf (L2.CX P wd) P wd K mg base N_Sights_widest "Sights.widest" (defScope s_Sights_widest) f cdv A outer s H E) (WD E) (defBody s_Sights_widest) t (T_Sights_widest C_Sights C_NotPossible) := by
  have hu : (A.deeper (envOfC "Sights.widest" (defScope s_Sights_widest) s.heap.objs.size f cdv)).units + 64 < cLine := hr.units
  exact ⟨_, (jb_one (js_ret (je_lc (own := ([("row", 1)] : List (Str × Nat))) finO finO_ok rfl sc_Sights_widest.nd (ji_list (je_methA mt_Sights_agreed_widths_1 hG (hr.mono (by decide)) (takes_of rfl rfl rfl rfl) (je_var 0) (jc_nil (ks := ([] : List Str)) jk_nil))) (blkOk_by (N := N_Sights_widest) (sc := defScope s_Sights_widest) (by decide +kernel)) (fun _ _ _ _ _ => (jg_name 1 sc_Sights_widest.nd)) (by exact (gk_name (vs := [1]) (i := 1))) (fun _ _ _ _ _ => jts_nil) (fun _ _ _ _ _ => (je_lc (own := ([("bound", 2)] : List (Str × Nat))) finO finO_ok rfl sc_Sights_widest.nd (ji_list (je_var 1)) (by exact blkOk_by (by kernel_rfl)) (fun _ _ _ _ _ => (jg_name 2 sc_Sights_widest.nd)) (by exact (gk_name (vs := [2]) (i := 2))) (fun _ _ _ _ _ => jts_nil) (fun _ _ _ _ _ => (je_if (jt_cmp op_isN opd_isN (je_var 2) je_non (nomark _)) je_int (je_var 2))))))))⟩
theorem sc__law_churn : FnScope N__law_churn P__law_churn (defScope s__law_churn) := ⟨rfl, rfl, rfl, by decide +kernel, rfl, by decide +kernel, by decide +kernel⟩
theorem d__law_churn {P : Program} {wd : World} {K : PySem.W.Frag} {mg : Str → Option Value} {base : Heap} {f : Addr} {cdv : Value} {A : Around} {outer : List Env} {s : Shared} {H : Hp} {E : XK} (hG : (A.deeper (envOfC "_law_churn" (defScope s__law_churn) s.heap.objs.size f cdv)).guards = some []) (hr : Room 0 (A.deeper (envOfC "_law_churn" (defScope s__law_churn) s.heap.objs.size f cdv))) (m_len : mg "len" = none) (m_abs : mg "abs" = none) (m_max : mg "max" = none) :
    ∃ t, JB (cxOf (L2.CX P wd) P wd K mg base N__law_churn "_law_churn" (defScope s__law_churn) f cdv A outer s H E) (WD E) (defBody s__law_churn) t T__law_churn := by
  have hu : (A.deeper (envOfC "_law_churn" (defScope s__law_churn) s.heap.objs.size f cdv)).units + 64 < cLine := hr.units
  exact ⟨_, (jb_cons (js_set 2 sc__law_churn.nd (je_if (jt_cmp op_lt opd_lt (je_var 1) (je_callB call_lenA cd_len rfl m_len (by decide +kernel) (ja_cons (je_var 0) ja_nil)) (nomark _)) (je_callB call_abs cd_abs rfl m_abs (by decide +kernel) (ja_cons (je_ix ix_seq opd_ix (je_var 0) (je_var 1)) ja_nil)) je_int))
  (jb_one (js_ret (je_lstO (ja_cons (je_callB (call_max2 rfl) cd_max2 rfl m_max (by decide +kernel) (ja_cons je_int (ja_cons (je_op op_sub opd_sub (je_var 2) (je_op op_powW opd_pow je_int je_int)) ja_nil))) (ja_cons (je_op op_addA opd_add (je_op op_mulA opd_mul (je_op op_mod opd_mod (je_var 2) (je_op op_addA opd_add (je_op op_powW opd_pow je_int je_int) je_int)) je_int) (je_var 1)) (ja_cons je_int ja_nil)))))))⟩
theorem sc__law_dab : FnScope N__law_dab P__law_dab (defScope s__law_dab) := ⟨rfl, rfl, rfl, by decide +kernel, rfl, by decide +kernel, by decide +kernel⟩
theorem d__law_dab {P : Program} {wd : World} {K : PySem.W.Frag} {mg : Str → Option Value} {base : Heap} {f : Addr} {cdv : Value} {A : Around} {outer : List Env} {s : Shared} {H : Hp} {E : XK} (hG : (A.deeper (envOfC "_law_dab" (defScope s__law_dab) s.heap.objs.size f cdv)).guards = some []) (hr : Room 0 (A.deeper (envOfC "_law_dab" (defScope s__law_dab) s.heap.objs.size f cdv)))  :
    ∃ t, JB (cxOf (L2.CX P wd) P wd K mg base N__law_dab "_law_dab" (defScope s__law_dab) f cdv A outer s H E) (WD E) (defBody s__law_dab) t T__law_dab := by
  have hu : (A.deeper (envOfC "_law_dab" (defScope s__law_dab) s.heap.objs.size f cdv)).units + 64 < cLine := hr.units
  exact ⟨_, (jb_cons (js_if (jt_cmp op_gt opd_gt (je_ix ix_seq opd_ix (je_var 0) je_int) je_int (nomark _))
  (jb_cons (js_set 2 sc__law_dab.nd (je_op op_mod opd_mod (je_ix ix_seq opd_ix (je_var 0) je_int) (je_var 1)))
  (jb_cons (js_asg (je_op op_fdivW opd_div (je_ix ix_seq opd_ix (je_var 0) je_int) (je_var 1)) (jg_sub (je_var 0) je_int set_list setd_o))
  (jb_one (js_ret (je_var 2)))))
  jb_nil)
  (jb_cons (js_asg (je_op op_addA opd_add (je_ix ix_seq opd_ix (je_var 0) je_int) je_int) (jg_sub (je_var 0) je_int set_list setd_o))
  (jb_cons (js_set 3 sc__law_dab.nd (je_op op_mod opd_mod (je_op op_powW opd_pow (je_op op_addA opd_add (je_ix ix_seq opd_ix (je_var 0) je_int) (je_op op_mulA opd_mul je_int (je_ix ix_seq opd_ix (je_var 0) je_int))) je_int) (je_op op_addA opd_add (je_op op_powW opd_pow je_int je_int) je_int)))
  (jb_cons (js_set 3 sc__law_dab.nd (je_op op_mod opd_mod (je_op op_powW opd_pow (je_op op_addA opd_add (je_var 3) (je_op op_mulA opd_mul je_int (je_ix ix_seq opd_ix (je_var 0) je_int))) je_int) (je_op op_addA opd_add (je_op op_powW opd_pow je_int je_int) je_int)))
  (jb_one (js_ret (je_op op_mod opd_mod (je_op op_fdivW opd_div (je_var 3) je_int) (je_var 1))))))))⟩
theorem sc__law_marks : FnScope N__law_marks P__law_marks (defScope s__law_marks) := ⟨rfl, rfl, rfl, by decide +kernel, rfl, by decide +kernel, by decide +kernel⟩
theorem d__law_marks {P : Program} {wd : World} {K : PySem.W.Frag} {mg : Str → Option Value} {base : Heap} {f : Addr} {cdv : Value} {A : Around} {outer : List Env} {s : Shared} {H : Hp} {E : XK} (hG : (A.deeper (envOfC "_law_marks" (defScope s__law_marks) s.heap.objs.size f cdv)).guards = some []) (hr : Room 1 (A.deeper (envOfC "_law_marks" (defScope s__law_marks) s.heap.objs.size f cdv))) (c__law_dab : CalG P wd K mg base "_law_dab" s__law_dab 1 P__law_dab sp__law_dab) (m_range : mg "range" = none) (m_min : mg "min" = none) (m_max : mg "max" = none) :
    ∃ t, JB (cxOf (L2.CX P wd) P wd K mg base N__law_marks "_law_marks" (defScope s__law_marks) f cdv A outer s H E) (WD E) (defBody s__law_marks) t T__law_marks := by
  have hu : (A.deeper (envOfC "_law_marks" (defScope s__law_marks) s.heap.objs.size f cdv)).units + 64 < cLine := hr.units
  exact ⟨_, (jb_cons (js_par3 3 4 5 rfl sc__law_marks.nd (ja_cons (je_callCG c__law_dab hG (hr.mono (by decide)) rfl (takes_of rfl rfl rfl rfl) (ja_cons (je_var 0) (ja_cons je_int ja_nil))) (ja_cons (je_lstO ja_nil) (ja_cons (je_callCG c__law_dab hG (hr.mono (by decide)) rfl (takes_of rfl rfl rfl rfl) (ja_cons (je_var 0) (ja_cons (je_op op_addA opd_add (je_var 2) je_int) ja_nil))) ja_nil))))
  (jb_cons (js_for (passes_of rfl) rfl (ji_range1 rfl m_range (ja_cons (je_op op_addA opd_add je_int (je_callCG c__law_dab hG (hr.mono (by decide)) rfl (takes_of rfl rfl rfl rfl) (ja_cons (je_var 0) (ja_cons (je_var 1) ja_nil)))) ja_nil)) (jg_name 6 sc__law_marks.nd)
  (jb_cons (js_set 7 sc__law_marks.nd (je_callCG c__law_dab hG (hr.mono (by decide)) rfl (takes_of rfl rfl rfl rfl) (ja_cons (je_var 0) (ja_cons (je_op op_addA opd_add (je_var 2) je_int) ja_nil))))
  (jb_cons (js_set 8 sc__law_marks.nd (je_callB (call_max2 rfl) cd_max2 rfl m_max (by decide +kernel) (ja_cons je_int (ja_cons (je_callB (call_min2 rfl) cd_min2 rfl m_min (by decide +kernel) (ja_cons (je_var 2) (ja_cons (je_op op_sub opd_sub (je_op op_addA opd_add (je_var 5) (je_op op_mod opd_mod (je_var 7) je_int)) je_int) ja_nil))) ja_nil))))
  (jb_cons (js_set 5 sc__law_marks.nd (je_ix ix_seq opd_ix (je_lst (ja_cons (je_var 7) (ja_cons (je_ix ix_seq opd_ix (je_lst (ja_cons (je_var 5) (ja_cons (je_var 5) (ja_cons (je_var 5) (ja_cons (je_var 7) ja_nil))))) (je_callCG c__law_dab hG (hr.mono (by decide)) rfl (takes_of rfl rfl rfl rfl) (ja_cons (je_var 0) (ja_cons je_int ja_nil)))) (ja_cons (je_var 8) ja_nil)))) (je_var 3)))
  (jb_one (js_expr (je_bm PySem.F.slot_list_append PySem.F.type_list_append mt_append mtd_append (je_var 4) (ja_cons (je_var 5) ja_nil))))))))
  (jb_one (js_ret (je_fz (je_var 4))))))⟩
theorem sc__law_cells : FnScope N__law_cells P__law_cells (defScope s__law_cells) := ⟨rfl, rfl, rfl, by decide +kernel, rfl, by decide +kernel, by decide +kernel⟩
theorem d__law_cells {P : Program} {wd : World} {K : PySem.W.Frag} {mg : Str → Option Value} {base : Heap} {f : Addr} {cdv : Value} {A : Around} {outer : List Env} {s : Shared} {H : Hp} {E : XK} (hG : (A.deeper (envOfC "_law_cells" (defScope s__law_cells) s.heap.objs.size f cdv)).guards = some []) (hr : Room 1 (A.deeper (envOfC "_law_cells" (defScope s__law_cells) s.heap.objs.size f cdv))) (m_range : mg "range" = none) (c__law_dab : CalG P wd K mg base "_law_dab" s__law_dab 1 P__law_dab sp__law_dab) :
    ∃ t, JB (cxOf (L2.CX P wd) P wd K mg base N__law_cells "_law_cells" (defScope s__law_cells) f cdv A outer s H E) (WD E) (defBody s__law_cells) t T__law_cells := by
  have hu : (A.deeper (envOfC "_law_cells" (defScope s__law_cells) s.heap.objs.size f cdv)).units + 64 < cLine := hr.units
  exact ⟨_, (jb_cons (js_set 3 sc__law_cells.nd (je_lstO ja_nil))
  (jb_cons (js_for (passes_of rfl) rfl (ji_list (je_var 1)) (jg_name 4 sc__law_cells.nd)
  (jb_cons (js_set 5 sc__law_cells.nd (je_lstO ja_nil))
  (jb_cons (js_for (passes_of rfl) rfl (ji_range1 rfl m_range (ja_cons (je_var 4) ja_nil)) (jg_name 6 sc__law_cells.nd)
  (jb_one (js_expr (je_bm PySem.F.slot_list_append PySem.F.type_list_append mt_append mtd_append (je_var 5) (ja_cons (je_op op_mod opd_mod (je_ix ix_seq opd_ix (je_lst (ja_cons (je_callCG c__law_dab hG (hr.mono (by decide)) rfl (takes_of rfl rfl rfl rfl) (ja_cons (je_var 0) (ja_cons je_int ja_nil))) (ja_cons (je_callCG c__law_dab hG (hr.mono (by decide)) rfl (takes_of rfl rfl rfl rfl) (ja_cons (je_var 0) (ja_cons (je_var 2) ja_nil))) (ja_cons (je_op op_sub opd_sub (je_var 2) je_int) ja_nil)))) (je_callCG c__law_dab hG (hr.mono (by decide)) rfl (takes_of rfl rfl rfl rfl) (ja_cons (je_var 0) (ja_cons je_int ja_nil)))) (je_var 2)) ja_nil)))))
  (jb_one (js_expr (je_bm PySem.F.slot_list_append PySem.F.type_list_append mt_append mtd_append (je_var 3) (ja_cons (je_fz (je_var 5)) ja_nil)))))))
  (jb_one (js_ret (je_fz (je_var 3))))))⟩
theorem sc__law_looks : FnScope N__law_looks P__law_looks (defScope s__law_looks) := ⟨rfl, rfl, rfl, by decide +kernel, rfl, by decide +kernel, by decide +kernel⟩
theorem d__law_looks {P : Program} {wd : World} {K : PySem.W.Frag} {mg : Str → Option Value} {base : Heap} {f : Addr} {cdv : Value} {A : Around} {outer : List Env} {s : Shared} {H : Hp} {E : XK} (hG : (A.deeper (envOfC "_law_looks" (defScope s__law_looks) s.heap.objs.size f cdv)).guards = some []) (hr : Room 1 (A.deeper (envOfC "_law_looks" (defScope s__law_looks) s.heap.objs.size f cdv))) (m_enumerate : mg "enumerate" = none) (m_int : mg "int" = none) (m_range : mg "range" = none) (c__law_dab : CalG P wd K mg base "_law_dab" s__law_dab 1 P__law_dab sp__law_dab) (m_len : mg "len" = none) (m_max : mg "max" = none) :
    ∃ t, JB (cxOf (L2.CX P wd) P wd K mg base N__law_looks "_law_looks" (defScope s__law_looks) f cdv A outer s H E) (WD E) (defBody s__law_looks) t T__law_looks := by
  have hu : (A.deeper (envOfC "_law_looks" (defScope s__law_looks) s.heap.objs.size f cdv)).units + 64 < cLine := hr.units
  exact ⟨_, (jb_cons (js_par 5 6 rfl sc__law_looks.nd (ja_cons (je_lc (own := ([("_law_at", 13), ("_law_number", 14)] : List (Str × Nat))) finF finF_ok rfl sc__law_looks.nd (ji_enum rfl m_enumerate (ja_cons (je_var 1) ja_nil)) (blkOk_by (N := N__law_looks) (sc := defScope s__law_looks) (by decide +kernel)) (fun _ _ _ _ _ => (jg_tup rfl (jgs_cons (jg_name 13 sc__law_looks.nd) (jgs_cons (jg_name 14 sc__law_looks.nd) jgs_nil)))) (by exact (gk_tup (gks_name (vs := [13, 14]) (i := 13) (gks_name (vs := [13, 14]) (i := 14) (gks_nil (vs := [13, 14])))))) (fun _ _ _ _ _ => (jts_one (jt_cmp op_gt opd_gt (je_var 14) je_int (nomark _)))) (fun _ _ _ _ _ => (je_var 13))) (ja_cons (je_lstO ja_nil) ja_nil)))
  (jb_cons (js_for (passes_of rfl) rfl (ji_range1 rfl m_range (ja_cons (je_op op_mulA opd_mul (je_var 3) (je_callTy call_int1 cd_int rfl m_int (by decide +kernel) (ja_cons (je_cmp (op_neD hu) opd_ne (je_var 5) (je_lst ja_nil) (nomark _)) ja_nil))) ja_nil)) (jg_name 7 sc__law_looks.nd)
  (jb_cons (js_set 8 sc__law_looks.nd (je_ix ix_seq opd_ix (je_var 5) (je_callCG c__law_dab hG (hr.mono (by decide)) rfl (takes_of rfl rfl rfl rfl) (ja_cons (je_var 0) (ja_cons (je_callB call_lenA cd_len rfl m_len (by decide +kernel) (ja_cons (je_var 5) ja_nil)) ja_nil)))))
  (jb_cons (js_asg (je_tup (ja_cons (je_ix ix_seq opd_ix (je_lst (ja_cons je_int (ja_cons (je_callCG c__law_dab hG (hr.mono (by decide)) rfl (takes_of rfl rfl rfl rfl) (ja_cons (je_var 0) (ja_cons (je_ix ix_seq opd_ix (je_var 1) (je_var 8)) ja_nil))) ja_nil))) (je_callCG c__law_dab hG (hr.mono (by decide)) rfl (takes_of rfl rfl rfl rfl) (ja_cons (je_var 0) (ja_cons je_int ja_nil)))) (ja_cons (je_var 8) ja_nil))) (jg_tup rfl (jgs_cons (jg_name 9 sc__law_looks.nd) (jgs_cons (jg_name 10 sc__law_looks.nd) jgs_nil))))
  (jb_cons (js_for (passes_of rfl) rfl (ji_range1 rfl m_range (ja_cons (je_ix ix_seq opd_ix (je_lst (ja_cons je_int (ja_cons je_int (ja_cons je_int (ja_cons je_int ja_nil))))) (je_callCG c__law_dab hG (hr.mono (by decide)) rfl (takes_of rfl rfl rfl rfl) (ja_cons (je_var 0) (ja_cons je_int ja_nil)))) ja_nil)) (jg_name 11 sc__law_looks.nd)
  (jb_one (js_if (JW.jt (jw_and (jt_cmp op_gt opd_gt (je_var 8) je_int (nomark _)) (jw_and (jt_cmp op_gt opd_gt (je_ix ix_seq opd_ix (je_var 1) (je_op op_sub opd_sub (je_var 8) je_int)) (je_var 9) (nomark _)) (jw_and1 (jt_cmp op_eq opd_eqF (je_callCG c__law_dab hG (hr.mono (by decide)) rfl (takes_of rfl rfl rfl rfl) (ja_cons (je_var 0) (ja_cons je_int ja_nil))) je_int (nomark _))))))
  (jb_one (js_set 8 sc__law_looks.nd (je_op op_sub opd_sub (je_var 8) je_int)))
  (jb_one (js_if (JW.jt (jw_and (jt_cmp op_lt opd_lt (je_op op_addA opd_add (je_var 10) je_int) (je_callB call_lenA cd_len rfl m_len (by decide +kernel) (ja_cons (je_var 1) ja_nil)) (nomark _)) (jw_and1 (jt_cmp op_gt opd_gt (je_ix ix_seq opd_ix (je_var 1) (je_op op_addA opd_add (je_var 10) je_int)) (je_var 9) (nomark _)))))
  (jb_one (js_set 10 sc__law_looks.nd (je_op op_addA opd_add (je_var 10) je_int)))
  jb_nil)))))
  (jb_cons (js_set 12 sc__law_looks.nd (je_callB (cr_max rfl) cd_max rfl m_max (by decide +kernel) (ja_cons (je_lc (own := ([("_law_row", 15)] : List (Str × Nat))) finF finF_ok rfl sc__law_looks.nd (ji_list (je_slice sl_list sld_l (je_var 2) (jo_some (je_var 8)) (jo_some (je_op op_addA opd_add (je_var 10) je_int)))) (blkOk_by (N := N__law_looks) (sc := defScope s__law_looks) (by decide +kernel)) (fun _ _ _ _ _ => (jg_name 15 sc__law_looks.nd)) (by exact (gk_name (vs := [15]) (i := 15))) (fun _ _ _ _ _ => jts_nil) (fun _ _ _ _ _ => (je_ix ix_seq opd_ix (je_var 15) (je_var 9)))) ja_nil)))
  (jb_cons (js_if (JW.jt (jw_and (jt_val (je_var 4)) (jw_and1 (jt_cmp op_eq opd_eqF (je_callCG c__law_dab hG (hr.mono (by decide)) rfl (takes_of rfl rfl rfl rfl) (ja_cons (je_var 0) (ja_cons je_int ja_nil))) je_int (nomark _)))))
  (jb_one (js_set 12 sc__law_looks.nd (je_ix ix_seq opd_ix (je_lst (ja_cons (je_callB (call_max2 rfl) cd_max2 rfl m_max (by decide +kernel) (ja_cons je_int (ja_cons (je_op op_sub opd_sub (je_var 12) je_int) ja_nil))) (ja_cons (je_op op_addA opd_add (je_var 12) je_int) (ja_cons (je_callCG c__law_dab hG (hr.mono (by decide)) rfl (takes_of rfl rfl rfl rfl) (ja_cons (je_var 0) (ja_cons (je_op op_addA opd_add (je_var 12) je_int) ja_nil))) ja_nil)))) (je_callCG c__law_dab hG (hr.mono (by decide)) rfl (takes_of rfl rfl rfl rfl) (ja_cons (je_var 0) (ja_cons je_int ja_nil))))))
  jb_nil)
  (jb_one (js_expr (je_bm PySem.F.slot_list_append PySem.F.type_list_append mt_append mtd_append (je_var 6) (ja_cons (je_tup (ja_cons (je_var 9) (ja_cons (je_var 8) (ja_cons (je_var 10) (ja_cons (je_var 12) ja_nil))))) ja_nil))))))))))
  (jb_one (js_ret (je_fz (je_var 6))))))⟩
theorem sc__law_inside : FnScope N__law_inside P__law_inside (defScope s__law_inside) := ⟨rfl, rfl, rfl, by decide +kernel, rfl, by decide +kernel, by decide +kernel⟩
theorem d__law_inside {P : Program} {wd : World} {K : PySem.W.Frag} {mg : Str → Option Value} {base : Heap} {f : Addr} {cdv : Value} {A : Around} {outer : List Env} {s : Shared} {H : Hp} {E : XK} (hG : (A.deeper (envOfC "_law_inside" (defScope s__law_inside) s.heap.objs.size f cdv)).guards = some []) (hr : Room 0 (A.deeper (envOfC "_law_inside" (defScope s__law_inside) s.heap.objs.size f cdv)))  :
    ∃ t, JB (cxOf (L2.CX P wd) P wd K mg base N__law_inside "_law_inside" (defScope s__law_inside) f cdv A outer s H E) (WD E) (defBody s__law_inside) t T__law_inside := by
  have hu : (A.deeper (envOfC "_law_inside" (defScope s__law_inside) s.heap.objs.size f cdv)).units + 64 < cLine := hr.units
  exact ⟨_, (jb_one (js_ret (je_and (je_cmp op_eq opd_eqF (je_ix ix_seq opd_ix (je_var 0) je_int) (je_var 2) (nomark _)) (je_one (je_chain op_le op_le opd_le opd_le (je_ix ix_seq opd_ix (je_var 0) je_int) (je_var 1) (je_ix ix_seq opd_ix (je_var 0) je_int))))))⟩
theorem sc__law_few : FnScope N__law_few P__law_few (defScope s__law_few) := ⟨rfl, rfl, rfl, by decide +kernel, rfl, by decide +kernel, by decide +kernel⟩
theorem d__law_few {P : Program} {wd : World} {K : PySem.W.Frag} {mg : Str → Option Value} {base : Heap} {f : Addr} {cdv : Value} {A : Around} {outer : List Env} {s : Shared} {H : Hp} {E : XK} (hG : (A.deeper (envOfC "_law_few" (defScope s__law_few) s.heap.objs.size f cdv)).guards = some []) (hr : Room 0 (A.deeper (envOfC "_law_few" (defScope s__law_few) s.heap.objs.size f cdv))) (m_range : mg "range" = none) (m_len : mg "len" = none) (m_sorted : mg "sorted" = none) :
    ∃ t, JB (cxOf (L2.CX P wd) P wd K mg base N__law_few "_law_few" (defScope s__law_few) f cdv A outer s H E) (WD E) (defBody s__law_few) t T__law_few := by
  have hu : (A.deeper (envOfC "_law_few" (defScope s__law_few) s.heap.objs.size f cdv)).units + 64 < cLine := hr.units
  exact ⟨_, (jb_cons (js_asg (je_tup (ja_cons (je_lstO ja_nil) (ja_cons (je_lst ja_nil) ja_nil))) (jg_tup rfl (jgs_cons (jg_name 2 sc__law_few.nd) (jgs_cons (jg_name 3 sc__law_few.nd) jgs_nil))))
  (jb_cons (js_for (passes_of rfl) rfl (ji_list (je_var 0)) (jg_name 4 sc__law_few.nd)
  (jb_cons (js_setLc 5 (own := ([("_law_at", 6)] : List (Str × Nat))) finF finF_ok rfl sc__law_few.nd (ji_range2 rfl m_range (ja_cons (je_ix ix_seq opd_ix (je_var 4) je_int) (ja_cons (je_op op_addA opd_add (je_ix ix_seq opd_ix (je_var 4) je_int) je_int) ja_nil))) (blkOk_by (N := N__law_few) (sc := defScope s__law_few) (by decide +kernel)) (fun _ _ _ _ _ => (jg_name 6 sc__law_few.nd)) (by exact (gk_name (vs := [6]) (i := 6))) (fun _ _ _ _ _ => (jts_one (jt_cmp (op_notInE hu) opd_notInE (je_tup (ja_cons (je_var 6) (ja_cons (je_ix ix_seq opd_ix (je_var 4) je_int) ja_nil))) (je_var 3) (by rfl)))) (fun _ _ _ _ _ => (je_tup (ja_cons (je_var 6) (ja_cons (je_ix ix_seq opd_ix (je_var 4) je_int) ja_nil)))))
  (jb_one (js_if (jt_cmp op_le opd_le (je_op op_addA opd_add (je_callB call_lenA cd_len rfl m_len (by decide +kernel) (ja_cons (je_var 3) ja_nil)) (je_callB call_lenA cd_len rfl m_len (by decide +kernel) (ja_cons (je_var 5) ja_nil))) (je_var 1) (nomark _))
  (jb_cons (js_expr (je_bm PySem.F.slot_list_append PySem.F.type_list_append mt_append mtd_append (je_var 2) (ja_cons (je_var 4) ja_nil)))
  (jb_one (js_set 3 sc__law_few.nd (je_op op_addA opd_add (je_var 3) (je_var 5)))))
  jb_nil))))
  (jb_one (js_ret (je_lst (ja_cons (je_fz (je_var 2)) (ja_cons (je_callB cr_sortQ cd_sortQ rfl m_sorted (by decide +kernel) (ja_cons (je_var 3) ja_nil)) ja_nil)))))))⟩
theorem sc__law_all : FnScope N__law_all P__law_all (defScope s__law_all) := ⟨rfl, rfl, rfl, by decide +kernel, rfl, by decide +kernel, by decide +kernel⟩
theorem d__law_all {P : Program} {wd : World} {K : PySem.W.Frag} {mg : Str → Option Value} {base : Heap} {f : Addr} {cdv : Value} {A : Around} {outer : List Env} {s : Shared} {H : Hp} {E : XK} (hG : (A.deeper (envOfC "_law_all" (defScope s__law_all) s.heap.objs.size f cdv)).guards = some []) (hr : Room 1 (A.deeper (envOfC "_law_all" (defScope s__law_all) s.heap.objs.size f cdv))) (m_max : mg "max" = none) (m_range : mg "range" = none) (m_enumerate : mg "enumerate" = none) (c__law_inside : CalG P wd K mg base "_law_inside" s__law_inside 1 P__law_inside sp__law_inside) :
    ∃ t, JB (cxOf (L2.CX P wd) P wd K mg base N__law_all "_law_all" (defScope s__law_all) f cdv A outer s H E) (WD E) (defBody s__law_all) t T__law_all := by
  have hu : (A.deeper (envOfC "_law_all" (defScope s__law_all) s.heap.objs.size f cdv)).units + 64 < cLine := hr.units
  exact ⟨_, (jb_cons (js_set 2 sc__law_all.nd (je_callB (cr_max rfl) cd_max rfl m_max (by decide +kernel) (ja_cons (je_op op_addA opd_add (je_lst (ja_cons je_int ja_nil)) (je_lc (own := ([("_law_look", 10)] : List (Str × Nat))) finF finF_ok rfl sc__law_all.nd (ji_list (je_var 1)) (blkOk_by (N := N__law_all) (sc := defScope s__law_all) (by decide +kernel)) (fun _ _ _ _ _ => (jg_name 10 sc__law_all.nd)) (by exact (gk_name (vs := [10]) (i := 10))) (fun _ _ _ _ _ => jts_nil) (fun _ _ _ _ _ => (je_ix ix_seq opd_ix (je_var 10) je_int)))) ja_nil)))
  (jb_cons (js_set 3 sc__law_all.nd (je_lst (ja_cons (je_lst ja_nil) ja_nil)))
  (jb_cons (js_for (passes_of rfl) rfl (ji_list (je_var 0)) (jg_name 4 sc__law_all.nd)
  (jb_cons (js_set 5 sc__law_all.nd (je_lstO ja_nil))
  (jb_cons (js_for (passes_of rfl) rfl (ji_list (je_var 3)) (jg_name 6 sc__law_all.nd)
  (jb_one (js_expr (je_bm PySem.F.slot_list_extend PySem.F.type_list_extend mt_extend mtd_extend (je_var 5) (ja_cons (je_lc (own := ([("_law_width_here", 11)] : List (Str × Nat))) finF finF_ok rfl sc__law_all.nd (ji_range1 rfl m_range (ja_cons (je_op op_addA opd_add (je_var 2) je_int) ja_nil)) (blkOk_by (N := N__law_all) (sc := defScope s__law_all) (by decide +kernel)) (fun _ _ _ _ _ => (jg_name 11 sc__law_all.nd)) (by exact (gk_name (vs := [11]) (i := 11))) (fun _ _ _ _ _ => jts_nil) (fun _ _ _ _ _ => (je_op op_addA opd_add (je_var 6) (je_lst (ja_cons (je_var 11) ja_nil))))) ja_nil)))))
  (jb_one (js_set 3 sc__law_all.nd (je_var 5))))))
  (jb_cons (js_set 7 sc__law_all.nd (je_lstO ja_nil))
  (jb_cons (js_for (passes_of rfl) rfl (ji_list (je_var 3)) (jg_name 6 sc__law_all.nd)
  (jb_cons (js_set 8 sc__law_all.nd je_bl)
  (jb_cons (js_for (passes_of rfl) rfl (ji_list (je_var 1)) (jg_name 10 sc__law_all.nd)
  (jb_cons (js_setLc 9 (own := ([("_law_k", 12), ("_law_place", 4)] : List (Str × Nat))) finF finF_ok rfl sc__law_all.nd (ji_enum rfl m_enumerate (ja_cons (je_var 0) ja_nil)) (blkOk_by (N := N__law_all) (sc := defScope s__law_all) (by decide +kernel)) (fun _ _ _ _ _ => (jg_tup rfl (jgs_cons (jg_name 12 sc__law_all.nd) (jgs_cons (jg_name 4 sc__law_all.nd) jgs_nil)))) (by exact (gk_tup (gks_name (vs := [12, 4]) (i := 12) (gks_name (vs := [12, 4]) (i := 4) (gks_nil (vs := [12, 4])))))) (fun _ _ _ _ _ => (jts_one (jt_val (je_callCG c__law_inside hG (hr.mono (by decide)) rfl takes0 (ja_cons (je_var 10) (ja_cons (je_ix ix_seq opd_ix (je_var 4) je_int) (ja_cons (je_ix ix_seq opd_ix (je_var 4) je_int) ja_nil))))))) (fun _ _ _ _ _ => (je_ix ix_seq opd_ix (je_var 6) (je_var 12))))
  (jb_one (js_set 8 sc__law_all.nd (je_and (je_var 8) (je_one (je_cmp op_eq opd_eqF (je_callB (cr_max rfl) cd_max rfl m_max (by decide +kernel) (ja_cons (je_var 9) ja_nil)) (je_ix ix_seq opd_ix (je_var 10) je_int) (nomark _))))))))
  (jb_one (js_if (jt_val (je_var 8))
  (jb_one (js_expr (je_bm PySem.F.slot_list_append PySem.F.type_list_append mt_append mtd_append (je_var 7) (ja_cons (je_var 6) ja_nil))))
  jb_nil)))))
  (jb_one (js_ret (je_fz (je_var 7)))))))))⟩
theorem sc__law_told : FnScope N__law_told P__law_told (defScope s__law_told) := ⟨rfl, rfl, rfl, by decide +kernel, rfl, by decide +kernel, by decide +kernel⟩
theorem d__law_told {C_Sights C_NotPossible : Addr} {P : Program} {wd : World} {K : PySem.W.Frag} {mg : Str → Option Value} {base : Heap} {f : Addr} {cdv : Value} {A : Around} {outer : List Env} {s : Shared} {H : Hp} {E : XK} (hG : (A.deeper (envOfC "_law_told" (defScope s__law_told) s.heap.objs.size f cdv)).guards = some []) (hr : Room 5 (A.deeper (envOfC "_law_told" (defScope s__law_told) s.heap.objs.size f cdv))) (mt_Sights_bounds_1 : MethK P wd K mg base C_Sights "bounds" 5 ([] : List Str) (pkP 1 [0] [] (sp_Sights_bounds C_Sights C_NotPossible))) (mt_Sights_ways_1 : MethK P wd K mg base C_Sights "ways" 5 ([] : List Str) (pkP 1 [0] [] (sp_Sights_ways C_Sights C_NotPossible))) (mt_Sights_widest_1 : MethK P wd K mg base C_Sights "widest" 5 ([] : List Str) (pkP 1 [0] [] (sp_Sights_widest C_Sights C_NotPossible))) (xm_NotPossible : ∀ C ∈ ([C_NotPossible] : List Addr), PySem.W.exmOne K (.ref C) (.ref C_NotPossible) = some true) (xf_reason : ∀ D ∈ ([C_NotPossible] : List Addr), XFldF K D "reason") (h_NotPossible : mg "NotPossible" = some (.ref C_NotPossible)) :
    ∃ t, JB (cxOf (L2.CX P wd) P wd K mg base N__law_told "_law_told" (defScope s__law_told) f cdv A outer s H E) (WD E) (defBody s__law_told) t (T__law_told C_Sights C_NotPossible) := by
  have hu : (A.deeper (envOfC "_law_told" (defScope s__law_told) s.heap.objs.size f cdv)).units + 64 < cLine := hr.units
  exact ⟨_, (jb_one (js_tryH (X := cxOf (L2.CX P wd) P wd K mg base N__law_told "_law_told" (defScope s__law_told) f cdv A outer s H E) 2 rfl rfl rfl sc__law_told.nd ⟨rfl, by decide, .inl h_NotPossible⟩ xm_NotPossible (fun W2 pn xe tkT => (jfb_cons (jf_if (jt_cmp op_eq opd_eqF (je_var 1) je_int (nomark _))
  (jfb_one (jf_ret (je_methA mt_Sights_bounds_1 hG (hr.mono (by decide)) tkT (je_var 0) (jc_nil (ks := ([] : List Str)) jk_nil))))
  jfb_nil)
  (jfb_one (jf_ret (je_if (jt_cmp op_eq opd_eqF (je_var 1) je_int (nomark _)) (je_methA mt_Sights_ways_1 hG (hr.mono (by decide)) tkT (je_var 0) (jc_nil (ks := ([] : List Str)) jk_nil)) (je_methA mt_Sights_widest_1 hG (hr.mono (by decide)) tkT (je_var 0) (jc_nil (ks := ([] : List Str)) jk_nil))))))) (fun aH pnH => (jb_one (js_ret (je_tup (ja_cons je_str (ja_cons (je_xfldK (X := (cxOf (L2.CX P wd) P wd K mg base N__law_told "_law_told" (defScope s__law_told) f cdv A outer s H E).suite aH pnH) xf_reason (je_var 2)) ja_nil))))))))⟩
theorem sc__law_range : FnScope N__law_range P__law_range (defScope s__law_range) := ⟨rfl, rfl, rfl, by decide +kernel, rfl, by decide +kernel, by decide +kernel⟩
theorem d__law_range {C_Sights C_NotPossible C_InvalidLine C_InvalidColumn : Addr} {P : Program} {wd : World} {K : PySem.W.Frag} {mg : Str → Option Value} {base : Heap} {f : Addr} {cdv : Value} {A : Around} {outer : List Env} {s : Shared} {H : Hp} {E : XK} (hG : (A.deeper (envOfC "_law_range" (defScope s__law_range) s.heap.objs.size f cdv)).guards = some []) (hr : Room 5 (A.deeper (envOfC "_law_range" (defScope s__law_range) s.heap.objs.size f cdv))) (mt_Sights_cell_range_3 : MethK P wd K mg base C_Sights "cell_range" 5 ([] : List Str) (pkP 3 [0, 1, 2] [] (sp_Sights_cell_range C_Sights C_InvalidLine C_InvalidColumn C_NotPossible))) (xm_NotPossible : ∀ C ∈ ([C_NotPossible] : List Addr), PySem.W.exmOne K (.ref C) (.ref C_NotPossible) = some true) (xf_reason : ∀ D ∈ ([C_NotPossible] : List Addr), XFldF K D "reason") (h_NotPossible : mg "NotPossible" = some (.ref C_NotPossible)) :
    ∃ t, JB (cxOf (L2.CX P wd) P wd K mg base N__law_range "_law_range" (defScope s__law_range) f cdv A outer s H E) (WD E) (defBody s__law_range) t (T__law_range C_Sights C_NotPossible C_InvalidLine C_InvalidColumn) := by
  have hu : (A.deeper (envOfC "_law_range" (defScope s__law_range) s.heap.objs.size f cdv)).units + 64 < cLine := hr.units
  exact ⟨_, (jb_one (js_tryH (X := cxOf (L2.CX P wd) P wd K mg base N__law_range "_law_range" (defScope s__law_range) f cdv A outer s H E) 3 rfl rfl rfl sc__law_range.nd ⟨rfl, by decide, .inl h_NotPossible⟩ xm_NotPossible (fun W2 pn xe tkT => (jfb_one (jf_ret (je_methA mt_Sights_cell_range_3 hG (hr.mono (by decide)) tkT (je_var 0) (jc_cons (ks := ([] : List Str)) (ja_cons (je_var 1) (ja_cons (je_var 2) ja_nil)) jk_nil))))) (fun aH pnH => (jb_one (js_ret (je_tup (ja_cons je_str (ja_cons (je_xfldK (X := (cxOf (L2.CX P wd) P wd K mg base N__law_range "_law_range" (defScope s__law_range) f cdv A outer s H E).suite aH pnH) xf_reason (je_var 3)) ja_nil))))))))⟩
theorem sc__law_right : FnScope N__law_right P__law_right (defScope s__law_right) := ⟨rfl, rfl, rfl, by decide +kernel, rfl, by decide +kernel, by decide +kernel⟩
theorem d__law_right {C_Sights C_InvalidLine C_InvalidColumn C_NotPossible : Addr} {P : Program} {wd : World} {K : PySem.W.Frag} {mg : Str → Option Value} {base : Heap} {f : Addr} {cdv : Value} {A : Around} {outer : List Env} {s : Shared} {H : Hp} {E : XK} (hG : (A.deeper (envOfC "_law_right" (defScope s__law_right) s.heap.objs.size f cdv)).guards = some []) (hr : Room 6 (A.deeper (envOfC "_law_right" (defScope s__law_right) s.heap.objs.size f cdv))) (c__law_all : CalG P wd K mg base "_law_all" s__law_all 2 P__law_all sp__law_all) (mk_Sights___init___3 : CtorK P wd K mg base C_Sights 4 ([] : List Str) (pkP 3 [0, 1, 2] [] (sp_Sights___init__ C_Sights))) (h_Sights : mg "Sights" = some (.ref C_Sights)) (mt_Sights_conflict_1 : MethK P wd K mg base C_Sights "conflict" 3 ([] : List Str) (pkP 1 [0] [] (sp_Sights_conflict C_Sights))) (m_range : mg "range" = none) (c__law_told : CalG P wd K mg base "_law_told" s__law_told 6 P__law_told (sp__law_told C_Sights)) (c__law_range : CalG P wd K mg base "_law_range" s__law_range 6 P__law_range (sp__law_range C_Sights)) (m_enumerate : mg "enumerate" = none) (m_sorted : mg "sorted" = none) (m_set : mg "set" = none) (m_list : mg "list" = none) (mt_Sights_cell_range_3 : MethK P wd K mg base C_Sights "cell_range" 5 ([] : List Str) (pkP 3 [0, 1, 2] [] (sp_Sights_cell_range C_Sights C_InvalidLine C_InvalidColumn C_NotPossible))) (mk : ModK K) (m_repr : mg "repr" = none) (mt_Sights_cell_range_1_column_line : MethK P wd K mg base C_Sights "cell_range" 5 (["column", "line"] : List Str) (pkP 1 [0, 2, 1] [] (sp_Sights_cell_range C_Sights C_InvalidLine C_InvalidColumn C_NotPossible))) (mt_Sights_widest_1 : MethK P wd K mg base C_Sights "widest" 5 ([] : List Str) (pkP 1 [0] [] (sp_Sights_widest C_Sights C_NotPossible))) (mt_Sights_ways_1 : MethK P wd K mg base C_Sights "ways" 5 ([] : List Str) (pkP 1 [0] [] (sp_Sights_ways C_Sights C_NotPossible))) (m_len : mg "len" = none) :
    ∃ t, JB (cxOf (L2.CX P wd) P wd K mg base N__law_right "_law_right" (defScope s__law_right) f cdv A outer s H E) (WD E) (defBody s__law_right) t (T__law_right C_Sights C_InvalidLine C_InvalidColumn C_NotPossible) := by
  have hu : (A.deeper (envOfC "_law_right" (defScope s__law_right) s.heap.objs.size f cdv)).units + 64 < cLine := hr.units
  exact ⟨_, (jb_cons (js_asg (je_tup (ja_cons (je_makeA mk_Sights___init___3 h_Sights hG (hr.mono (by decide)) rfl (takes_of rfl rfl rfl rfl) (jc_cons (ks := ([] : List Str)) (ja_cons (je_var 0) (ja_cons (je_var 1) ja_nil)) jk_nil)) (ja_cons (je_callCG c__law_all hG (hr.mono (by decide)) rfl (takes_of rfl rfl rfl rfl) (ja_cons (je_var 2) (ja_cons (je_var 1) ja_nil))) ja_nil))) (jg_tup rfl (jgs_cons (jg_name 3 sc__law_right.nd) (jgs_cons (jg_name 4 sc__law_right.nd) jgs_nil))))
  (jb_cons (js_set 5 sc__law_right.nd (je_methA mt_Sights_conflict_1 hG (hr.mono (by decide)) (takes_of rfl rfl rfl rfl) (je_var 3) (jc_nil (ks := ([] : List Str)) jk_nil)))
  (jb_cons (js_if (jt_cmp op_ne opd_neF (je_cmp op_isN opd_isN (je_var 5) je_non (nomark _)) (je_cmp (op_neD hu) opd_ne (je_var 4) (je_lst ja_nil) (nomark _)) (nomark _))
  (jb_one (js_ret je_bl))
  jb_nil)
  (jb_cons (js_if (jt_cmp (op_eqD hu) opd_eq (je_var 4) (je_lst ja_nil) (nomark _))
  (jb_cons (js_set 6 sc__law_right.nd (je_op op_addA opd_add (je_lc (own := ([("_law_way", 12)] : List (Str × Nat))) finF finF_ok rfl sc__law_right.nd (ji_range1 rfl m_range (ja_cons je_int ja_nil)) (blkOk_by (N := N__law_right) (sc := defScope s__law_right) (by decide +kernel)) (fun _ _ _ _ _ => (jg_name 12 sc__law_right.nd)) (by exact (gk_name (vs := [12]) (i := 12))) (fun _ _ _ _ _ => jts_nil) (fun _ _ _ _ _ => (je_callCG c__law_told hG (hr.mono (by decide)) rfl takes0 (ja_cons (je_var 3) (ja_cons (je_var 12) ja_nil))))) (je_lst (ja_cons (je_callCG c__law_range hG (hr.mono (by decide)) rfl (takes_of rfl rfl rfl rfl) (ja_cons (je_var 3) (ja_cons (je_ix ix_seq opd_ix (je_ix ix_seq opd_ix (je_var 2) je_int) je_int) (ja_cons (je_ix ix_seq opd_ix (je_ix ix_seq opd_ix (je_var 2) je_int) je_int) ja_nil)))) ja_nil))))
  (jb_one (js_ret (je_cmp (op_eqD hu) opd_eq (je_var 6) (je_op op_mulA opd_mul (je_lst (ja_cons (je_tup (ja_cons je_str (ja_cons (je_var 5) ja_nil))) ja_nil)) je_int) (nomark _)))))
  jb_nil)
  (jb_cons (js_setLc 7 (own := ([("_law_number", 13)] : List (Str × Nat))) finO finO_ok rfl sc__law_right.nd (ji_list (je_var 0)) (blkOk_by (N := N__law_right) (sc := defScope s__law_right) (by decide +kernel)) (fun _ _ _ _ _ => (jg_name 13 sc__law_right.nd)) (by exact (gk_name (vs := [13]) (i := 13))) (fun _ _ _ _ _ => jts_nil) (fun _ _ _ _ _ => (je_op op_mulA opd_mulO (je_lst (ja_cons je_int ja_nil)) (je_var 13))))
  (jb_cons (js_for (passes_of rfl) rfl (ji_enum rfl m_enumerate (ja_cons (je_var 0) ja_nil)) (jg_tup rfl (jgs_cons (jg_name 8 sc__law_right.nd) (jgs_cons (jg_name 13 sc__law_right.nd) jgs_nil)))
  (jb_one (js_for (passes_of rfl) rfl (ji_range1 rfl m_range (ja_cons (je_var 13) ja_nil)) (jg_name 9 sc__law_right.nd)
  (jb_cons (js_set 10 sc__law_right.nd je_non)
  (jb_cons (js_if (jt_cmp (op_inE hu) opd_inE (je_tup (ja_cons (je_var 8) (ja_cons (je_var 9) ja_nil))) (je_var 2) (by rfl))
  (jb_cons (js_set 11 sc__law_right.nd (je_si rfl rfl m_sorted rfl m_set (je_lc (own := ([("_law_row", 14)] : List (Str × Nat))) finF finF_ok rfl sc__law_right.nd (ji_list (je_var 4)) (blkOk_by (N := N__law_right) (sc := defScope s__law_right) (by decide +kernel)) (fun _ _ _ _ _ => (jg_name 14 sc__law_right.nd)) (by exact (gk_name (vs := [14]) (i := 14))) (fun _ _ _ _ _ => jts_nil) (fun _ _ _ _ _ => (je_ix ix_seq opd_ix (je_var 14) (je_bm PySem.F.slot_list_index PySem.F.type_list_index (mt_indexE hu) mtd_idxE (je_var 2) (ja_cons (je_tup (ja_cons (je_var 8) (ja_cons (je_var 9) ja_nil))) ja_nil)))))))
  (jb_cons (js_set 10 sc__law_right.nd (je_tup (ja_cons (je_ix ix_seq opd_ix (je_var 11) je_int) (ja_cons (je_ix ix_seq opd_ix (je_var 11) (je_neg je_int)) ja_nil))))
  (jb_cons (js_asg (je_ix ix_seq opd_ix (je_var 11) (je_neg je_int)) (jg_sub (je_ix ix_seq opd_ix (je_var 7) (je_var 8)) (je_var 9) set_list setd_o))
  (jb_one (js_if (jt_cmp (op_neD hu) opd_ne (je_var 11) (je_lrg2 rfl rfl m_range rfl m_list (je_ix ix_seq opd_ix (je_var 11) je_int) (je_op op_addA opd_add (je_ix ix_seq opd_ix (je_var 11) (je_neg je_int)) je_int)) (nomark _))
  (jb_one (js_ret je_bl))
  jb_nil)))))
  jb_nil)
  (jb_one (js_if (JW.jt (jw_or (jt_cmp op_ne opd_neF (je_callB (call_reprX mk hG hu) cd_reprX rfl m_repr (by decide +kernel) (ja_cons (je_methA mt_Sights_cell_range_3 hG (hr.mono (by decide)) (takes_of rfl rfl rfl rfl) (je_var 3) (jc_cons (ks := ([] : List Str)) (ja_cons (je_var 8) (ja_cons (je_var 9) ja_nil)) jk_nil)) ja_nil)) (je_callB (call_reprX mk hG hu) cd_reprX rfl m_repr (by decide +kernel) (ja_cons (je_var 10) ja_nil)) (nomark _)) (jw_or1 (jt_cmp (op_neD hu) opd_ne (je_methA mt_Sights_cell_range_1_column_line hG (hr.mono (by decide)) (takes_of rfl rfl rfl rfl) (je_var 3) (jc_nil (ks := (["column", "line"] : List Str)) (jk_cons (je_var 9) (jk_cons (je_var 8) jk_nil)))) (je_var 10) (nomark _)))))
  (jb_one (js_ret je_bl))
  jb_nil)))))))
  (jb_one (js_ret (je_cmp op_eq opd_eqF (je_callB (call_reprX mk hG hu) cd_reprX rfl m_repr (by decide +kernel) (ja_cons (je_lst (ja_cons (je_methA mt_Sights_ways_1 hG (hr.mono (by decide)) (takes_of rfl rfl rfl rfl) (je_var 3) (jc_nil (ks := ([] : List Str)) jk_nil)) (ja_cons (je_methA mt_Sights_widest_1 hG (hr.mono (by decide)) (takes_of rfl rfl rfl rfl) (je_var 3) (jc_nil (ks := ([] : List Str)) jk_nil)) ja_nil))) ja_nil)) (je_callB (call_reprX mk hG hu) cd_reprX rfl m_repr (by decide +kernel) (ja_cons (je_lst (ja_cons (je_callB call_lenA cd_len rfl m_len (by decide +kernel) (ja_cons (je_var 4) ja_nil)) (ja_cons (je_var 7) ja_nil))) ja_nil)) (nomark _))))))))))⟩
theorem sc_law : FnScope N_law P_law (defScope s_law) := ⟨rfl, rfl, rfl, by decide +kernel, rfl, by decide +kernel, by decide +kernel⟩
theorem d_law {P : Program} {wd : World} {K : PySem.W.Frag} {mg : Str → Option Value} {base : Heap} {f : Addr} {cdv : Value} {A : Around} {outer : List Env} {s : Shared} {H : Hp} {E : XK} (hG : (A.deeper (envOfC "law" (defScope s_law) s.heap.objs.size f cdv)).guards = some []) (hr : Room 7 (A.deeper (envOfC "law" (defScope s_law) s.heap.objs.size f cdv))) (m_len : mg "len" = none) (m_min : mg "min" = none) (m_max : mg "max" = none) (m_range : mg "range" = none) (c__law_churn : CalG P wd K mg base "_law_churn" s__law_churn 1 P__law_churn sp__law_churn) (c__law_marks : CalG P wd K mg base "_law_marks" s__law_marks 2 P__law_marks sp__law_marks) (c__law_cells : CalG P wd K mg base "_law_cells" s__law_cells 2 P__law_cells sp__law_cells) (c__law_few : CalG P wd K mg base "_law_few" s__law_few 1 P__law_few sp__law_few) (c__law_looks : CalG P wd K mg base "_law_looks" s__law_looks 2 P__law_looks sp__law_looks) (c__law_dab : CalG P wd K mg base "_law_dab" s__law_dab 1 P__law_dab sp__law_dab) (c__law_right : CalG P wd K mg base "_law_right" s__law_right 7 P__law_right sp__law_right) :
    ∃ t, JB (cxOf (L2.CX P wd) P wd K mg base N_law "law" (defScope s_law) f cdv A outer s H E) (WD E) (defBody s_law) t T_law := by
  have hu : (A.deeper (envOfC "law" (defScope s_law) s.heap.objs.size f cdv)).units + 64 < cLine := hr.units
  exact ⟨_, (jb_cons (js_for (passes_of rfl) rfl (ji_range1 rfl m_range (ja_cons (je_callB (call_max2 rfl) cd_max2 rfl m_max (by decide +kernel) (ja_cons je_int (ja_cons (je_callB (call_min2 rfl) cd_min2 rfl m_min (by decide +kernel) (ja_cons je_int (ja_cons (je_callB call_lenA cd_len rfl m_len (by decide +kernel) (ja_cons (je_var 0) ja_nil)) ja_nil))) ja_nil))) ja_nil)) (jg_name 1 sc_law.nd)
  (jb_cons (js_set 2 sc_law.nd (je_callCG c__law_churn hG (hr.mono (by decide)) rfl (takes_of rfl rfl rfl rfl) (ja_cons (je_var 0) (ja_cons (je_var 1) ja_nil))))
  (jb_one (js_for (passes_of rfl) rfl (ji_range1 rfl m_range (ja_cons je_int ja_nil)) (jg_name 3 sc_law.nd)
  (jb_cons (js_set 4 sc_law.nd (je_callCG c__law_marks hG (hr.mono (by decide)) rfl (takes_of rfl rfl rfl rfl) (ja_cons (je_var 2) (ja_cons je_int (ja_cons je_int ja_nil)))))
  (jb_cons (js_set 5 sc_law.nd (je_callCG c__law_cells hG (hr.mono (by decide)) rfl (takes_of rfl rfl rfl rfl) (ja_cons (je_var 2) (ja_cons (je_var 4) (ja_cons je_int ja_nil)))))
  (jb_cons (js_asg (je_callCG c__law_few hG (hr.mono (by decide)) rfl (takes_of rfl rfl rfl rfl) (ja_cons (je_callCG c__law_looks hG (hr.mono (by decide)) rfl (takes_of rfl rfl rfl rfl) (ja_cons (je_var 2) (ja_cons (je_var 4) (ja_cons (je_var 5) (ja_cons (je_callCG c__law_dab hG (hr.mono (by decide)) rfl (takes_of rfl rfl rfl rfl) (ja_cons (je_var 2) (ja_cons je_int ja_nil))) (ja_cons (je_cmp op_eq opd_eqF (je_callCG c__law_dab hG (hr.mono (by decide)) rfl (takes_of rfl rfl rfl rfl) (ja_cons (je_var 2) (ja_cons je_int ja_nil))) je_int (nomark _)) ja_nil)))))) (ja_cons je_int ja_nil))) (jg_lsU rfl (jgs_cons (jg_name 6 sc_law.nd) (jgs_cons (jg_name 7 sc_law.nd) jgs_nil))))
  (jb_cons (js_setLc 6 (own := ([("_law_look", 8)] : List (Str × Nat))) finF finF_ok rfl sc_law.nd (ji_list (je_var 6)) (blkOk_by (N := N_law) (sc := defScope s_law) (by decide +kernel)) (fun _ _ _ _ _ => (jg_name 8 sc_law.nd)) (by exact (gk_name (vs := [8]) (i := 8))) (fun _ _ _ _ _ => jts_nil) (fun _ _ _ _ _ => (je_op op_catT opd_addT (je_slice sl_tup sld_t (je_var 8) jo_none (jo_some je_int)) (je_tup (ja_cons (je_callB (call_min2 rfl) cd_min2 rfl m_min (by decide +kernel) (ja_cons je_int (ja_cons (je_ix ix_seq opd_ix (je_var 8) je_int) ja_nil))) ja_nil)))))
  (jb_one (js_if (jt_not (jt_val (je_callCG c__law_right hG (hr.mono (by decide)) rfl (takes_of rfl rfl rfl rfl) (ja_cons (je_var 4) (ja_cons (je_var 6) (ja_cons (je_var 7) ja_nil))))))
  (jb_one (js_ret je_bl))
  jb_nil))))))))))
  (jb_one (js_ret (je_callCG c__law_right hG (hr.mono (by decide)) rfl (takes_of rfl rfl rfl rfl) (ja_cons (je_lst (ja_cons je_int (ja_cons je_int (ja_cons je_int ja_nil)))) (ja_cons (je_lst (ja_cons (je_tup (ja_cons je_int (ja_cons je_int (ja_cons je_int (ja_cons je_int ja_nil))))) (ja_cons (je_tup (ja_cons je_int (ja_cons je_int (ja_cons je_int (ja_cons je_int ja_nil))))) ja_nil))) (ja_cons (je_lst (ja_cons (je_tup (ja_cons je_int (ja_cons je_int ja_nil))) (ja_cons (je_tup (ja_cons je_int (ja_cons je_int ja_nil))) (ja_cons (je_tup (ja_cons je_int (ja_cons je_int ja_nil))) ja_nil)))) ja_nil)))))))⟩
end DL
namespace DL
open PySem PySem.Spec PyProof.Rows L2
theorem fun_one {K : PySem.W.Frag} {x : Str} {st : Stmt} {f : Addr} {fd fd2 : FuncData} (F : FunS K x st f fd) (F2 : FunS K x st f fd2) : fd = fd2 := by
  obtain ⟨⟨_, _, _, _, _, _, _, _, _, _, _, e, lk, _⟩, _⟩ := F
  obtain ⟨⟨_, _, _, _, _, _, _, _, _, _, _, e2, lk2, _⟩, _⟩ := F2
  rw [e] at e2
  cases e2
  rfl
theorem len_is_whole : ∀ ds S Φ Ψ, sp_is_whole ds S Φ Ψ → ds.length = (P_is_whole : List Str).length := by
  intro ds S Φ Ψ h
  repeat' (first | (obtain ⟨e, _⟩ := h; (rw [e]; rfl)) | (refine Or.elim h ?_ ?_ <;> clear h <;> intro h) | (obtain ⟨_, h⟩ := h))
theorem len_are_tabs : ∀ ds S Φ Ψ, sp_are_tabs ds S Φ Ψ → ds.length = (P_are_tabs : List Str).length := by
  intro ds S Φ Ψ h
  repeat' (first | (obtain ⟨e, _⟩ := h; (rw [e]; rfl)) | (refine Or.elim h ?_ ?_ <;> clear h <;> intro h) | (obtain ⟨_, h⟩ := h))
theorem len_is_sight : ∀ ds S Φ Ψ, sp_is_sight ds S Φ Ψ → ds.length = (P_is_sight : List Str).length := by
  intro ds S Φ Ψ h
  repeat' (first | (obtain ⟨e, _⟩ := h; (rw [e]; rfl)) | (refine Or.elim h ?_ ?_ <;> clear h <;> intro h) | (obtain ⟨_, h⟩ := h))
theorem len_are_sights : ∀ ds S Φ Ψ, sp_are_sights ds S Φ Ψ → ds.length = (P_are_sights : List Str).length := by
  intro ds S Φ Ψ h
  repeat' (first | (obtain ⟨e, _⟩ := h; (rw [e]; rfl)) | (refine Or.elim h ?_ ?_ <;> clear h <;> intro h) | (obtain ⟨_, h⟩ := h))
theorem len_contains : ∀ ds S Φ Ψ, sp_contains ds S Φ Ψ → ds.length = (P_contains : List Str).length := by
  intro ds S Φ Ψ h
  repeat' (first | (obtain ⟨e, _⟩ := h; (rw [e]; rfl)) | (refine Or.elim h ?_ ?_ <;> clear h <;> intro h) | (obtain ⟨_, h⟩ := h))
theorem len_count_marked : ∀ ds S Φ Ψ, sp_count_marked ds S Φ Ψ → ds.length = (P_count_marked : List Str).length := by
  intro ds S Φ Ψ h
  repeat' (first | (obtain ⟨e, _⟩ := h; (rw [e]; rfl)) | (refine Or.elim h ?_ ?_ <;> clear h <;> intro h) | (obtain ⟨_, h⟩ := h))
theorem len_Sights___init__ {C_Sights : Addr} : ∀ ds S Φ Ψ, (sp_Sights___init__ C_Sights) ds S Φ Ψ → ds.length = (P_Sights___init__ : List Str).length := by
  intro ds S Φ Ψ h
  repeat' (first | (obtain ⟨e, _⟩ := h; (rw [e]; rfl)) | (refine Or.elim h ?_ ?_ <;> clear h <;> intro h) | (obtain ⟨_, h⟩ := h))
theorem len_Sights_least_widths {C_Sights : Addr} : ∀ ds S Φ Ψ, (sp_Sights_least_widths C_Sights) ds S Φ Ψ → ds.length = (P_Sights_least_widths : List Str).length := by
  intro ds S Φ Ψ h
  repeat' (first | (obtain ⟨e, _⟩ := h; (rw [e]; rfl)) | (refine Or.elim h ?_ ?_ <;> clear h <;> intro h) | (obtain ⟨_, h⟩ := h))
theorem len_Sights_lesser_sight {C_Sights : Addr} : ∀ ds S Φ Ψ, (sp_Sights_lesser_sight C_Sights) ds S Φ Ψ → ds.length = (P_Sights_lesser_sight : List Str).length := by
  intro ds S Φ Ψ h
  repeat' (first | (obtain ⟨e, _⟩ := h; (rw [e]; rfl)) | (refine Or.elim h ?_ ?_ <;> clear h <;> intro h) | (obtain ⟨_, h⟩ := h))
theorem len_Sights_conflict {C_Sights : Addr} : ∀ ds S Φ Ψ, (sp_Sights_conflict C_Sights) ds S Φ Ψ → ds.length = (P_Sights_conflict : List Str).length := by
  intro ds S Φ Ψ h
  repeat' (first | (obtain ⟨e, _⟩ := h; (rw [e]; rfl)) | (refine Or.elim h ?_ ?_ <;> clear h <;> intro h) | (obtain ⟨_, h⟩ := h))
theorem len_Sights_agreed_widths {C_Sights C_NotPossible : Addr} : ∀ ds S Φ Ψ, (sp_Sights_agreed_widths C_Sights C_NotPossible) ds S Φ Ψ → ds.length = (P_Sights_agreed_widths : List Str).length := by
  intro ds S Φ Ψ h
  repeat' (first | (obtain ⟨e, _⟩ := h; (rw [e]; rfl)) | (refine Or.elim h ?_ ?_ <;> clear h <;> intro h) | (obtain ⟨_, h⟩ := h))
theorem len_Sights_bounds {C_Sights C_NotPossible : Addr} : ∀ ds S Φ Ψ, (sp_Sights_bounds C_Sights C_NotPossible) ds S Φ Ψ → ds.length = (P_Sights_bounds : List Str).length := by
  intro ds S Φ Ψ h
  repeat' (first | (obtain ⟨e, _⟩ := h; (rw [e]; rfl)) | (refine Or.elim h ?_ ?_ <;> clear h <;> intro h) | (obtain ⟨_, h⟩ := h))
theorem len_Sights_cell_range {C_Sights C_InvalidLine C_InvalidColumn C_NotPossible : Addr} : ∀ ds S Φ Ψ, (sp_Sights_cell_range C_Sights C_InvalidLine C_InvalidColumn C_NotPossible) ds S Φ Ψ → ds.length = (P_Sights_cell_range : List Str).length := by
  intro ds S Φ Ψ h
  repeat' (first | (obtain ⟨e, _⟩ := h; (rw [e]; rfl)) | (refine Or.elim h ?_ ?_ <;> clear h <;> intro h) | (obtain ⟨_, h⟩ := h))
theorem len_Sights_ways {C_Sights C_NotPossible : Addr} : ∀ ds S Φ Ψ, (sp_Sights_ways C_Sights C_NotPossible) ds S Φ Ψ → ds.length = (P_Sights_ways : List Str).length := by
  intro ds S Φ Ψ h
  repeat' (first | (obtain ⟨e, _⟩ := h; (rw [e]; rfl)) | (refine Or.elim h ?_ ?_ <;> clear h <;> intro h) | (obtain ⟨_, h⟩ := h))
theorem len_Sights_widest {C_Sights C_NotPossible : Addr} : ∀ ds S Φ Ψ, (sp_Sights_widest C_Sights C_NotPossible) ds S Φ Ψ → ds.length = (P_Sights_widest : List Str).length := by
  intro ds S Φ Ψ h
  repeat' (first | (obtain ⟨e, _⟩ := h; (rw [e]; rfl)) | (refine Or.elim h ?_ ?_ <;> clear h <;> intro h) | (obtain ⟨_, h⟩ := h))
theorem len__law_churn : ∀ ds S Φ Ψ, sp__law_churn ds S Φ Ψ → ds.length = (P__law_churn : List Str).length := by
  intro ds S Φ Ψ h
  repeat' (first | (obtain ⟨e, _⟩ := h; (rw [e]; rfl)) | (refine Or.elim h ?_ ?_ <;> clear h <;> intro h) | (obtain ⟨_, h⟩ := h))
theorem len__law_dab : ∀ ds S Φ Ψ, sp__law_dab ds S Φ Ψ → ds.length = (P__law_dab : List Str).length := by
  intro ds S Φ Ψ h
  repeat' (first | (obtain ⟨e, _⟩ := h; (rw [e]; rfl)) | (refine Or.elim h ?_ ?_ <;> clear h <;> intro h) | (obtain ⟨_, h⟩ := h))
theorem len__law_marks : ∀ ds S Φ Ψ, sp__law_marks ds S Φ Ψ → ds.length = (P__law_marks : List Str).length := by
  intro ds S Φ Ψ h
  repeat' (first | (obtain ⟨e, _⟩ := h; (rw [e]; rfl)) | (refine Or.elim h ?_ ?_ <;> clear h <;> intro h) | (obtain ⟨_, h⟩ := h))
theorem len__law_cells : ∀ ds S Φ Ψ, sp__law_cells ds S Φ Ψ → ds.length = (P__law_cells : List Str).length := by
  intro ds S Φ Ψ h
  repeat' (first | (obtain ⟨e, _⟩ := h; (rw [e]; rfl)) | (refine Or.elim h ?_ ?_ <;> clear h <;> intro h) | (obtain ⟨_, h⟩ := h))
theorem len__law_looks : ∀ ds S Φ Ψ, sp__law_looks ds S Φ Ψ → ds.length = (P__law_looks : List Str).length := by
  intro ds S Φ Ψ h
  repeat' (first | (obtain ⟨e, _⟩ := h; (rw [e]; rfl)) | (refine Or.elim h ?_ ?_ <;> clear h <;> intro h) | (obtain ⟨_, h⟩ := h))
theorem len__law_inside : ∀ ds S Φ Ψ, sp__law_inside ds S Φ Ψ → ds.length = (P__law_inside : List Str).length := by
  intro ds S Φ Ψ h
  repeat' (first | (obtain ⟨e, _⟩ := h; (rw [e]; rfl)) | (refine Or.elim h ?_ ?_ <;> clear h <;> intro h) | (obtain ⟨_, h⟩ := h))
theorem len__law_few : ∀ ds S Φ Ψ, sp__law_few ds S Φ Ψ → ds.length = (P__law_few : List Str).length := by
  intro ds S Φ Ψ h
  repeat' (first | (obtain ⟨e, _⟩ := h; (rw [e]; rfl)) | (refine Or.elim h ?_ ?_ <;> clear h <;> intro h) | (obtain ⟨_, h⟩ := h))
theorem len__law_all : ∀ ds S Φ Ψ, sp__law_all ds S Φ Ψ → ds.length = (P__law_all : List Str).length := by
  intro ds S Φ Ψ h
  repeat' (first | (obtain ⟨e, _⟩ := h; (rw [e]; rfl)) | (refine Or.elim h ?_ ?_ <;> clear h <;> intro h) | (obtain ⟨_, h⟩ := h))
theorem len__law_told {C_Sights : Addr} : ∀ ds S Φ Ψ, (sp__law_told C_Sights) ds S Φ Ψ → ds.length = (P__law_told : List Str).length := by
  intro ds S Φ Ψ h
  repeat' (first | (obtain ⟨e, _⟩ := h; (rw [e]; rfl)) | (refine Or.elim h ?_ ?_ <;> clear h <;> intro h) | (obtain ⟨_, h⟩ := h))
theorem len__law_range {C_Sights : Addr} : ∀ ds S Φ Ψ, (sp__law_range C_Sights) ds S Φ Ψ → ds.length = (P__law_range : List Str).length := by
  intro ds S Φ Ψ h
  repeat' (first | (obtain ⟨e, _⟩ := h; (rw [e]; rfl)) | (refine Or.elim h ?_ ?_ <;> clear h <;> intro h) | (obtain ⟨_, h⟩ := h))
theorem len__law_right : ∀ ds S Φ Ψ, sp__law_right ds S Φ Ψ → ds.length = (P__law_right : List Str).length := by
  intro ds S Φ Ψ h
  repeat' (first | (obtain ⟨e, _⟩ := h; (rw [e]; rfl)) | (refine Or.elim h ?_ ?_ <;> clear h <;> intro h) | (obtain ⟨_, h⟩ := h))
theorem len_law : ∀ ds S Φ Ψ, sp_law ds S Φ Ψ → ds.length = (P_law : List Str).length := by
  intro ds S Φ Ψ h
  repeat' (first | (obtain ⟨e, _⟩ := h; (rw [e]; rfl)) | (refine Or.elim h ?_ ?_ <;> clear h <;> intro h) | (obtain ⟨_, h⟩ := h))
theorem factsL {P : Program} {wd : World} {K : PySem.W.Frag} {h : Heap} {mg : Str → Option Value} {f : Addr} (X : K.In h) (G : h.Ns mainGlobals mg) (hfa : mg ("law" : Str) = some (.ref f)) (c : SaysX faL fnL K) :
    ∃ fd : FuncData, (∀ (s : Shared) (v : Value), BindsTo s fd ⟨[v], []⟩ [("_law_script", v)]) ∧ ∀ base : Heap, K.In base → base.Ns mainGlobals mg → FnOkG P wd K mg base (L2.CX P wd) 8 f fd ["_law_script"] (spOf K sp_law) := by
  have t_is_whole : Tx K mg "is_whole" s_is_whole := ⟨let ⟨fd, F⟩ := c.def_ 0 (d := dd_is_whole) rfl; ⟨_, fd, F, He.glo_ok X G (c.fact 0 (f := (fun K => (He.Fa.glo "is_whole").ok K)) rfl)⟩⟩
  have t_are_tabs : Tx K mg "are_tabs" s_are_tabs := ⟨let ⟨fd, F⟩ := c.def_ 1 (d := dd_are_tabs) rfl; ⟨_, fd, F, He.glo_ok X G (c.fact 1 (f := (fun K => (He.Fa.glo "are_tabs").ok K)) rfl)⟩⟩
  have t_is_sight : Tx K mg "is_sight" s_is_sight := ⟨let ⟨fd, F⟩ := c.def_ 2 (d := dd_is_sight) rfl; ⟨_, fd, F, He.glo_ok X G (c.fact 2 (f := (fun K => (He.Fa.glo "is_sight").ok K)) rfl)⟩⟩
  have t_are_sights : Tx K mg "are_sights" s_are_sights := ⟨let ⟨fd, F⟩ := c.def_ 3 (d := dd_are_sights) rfl; ⟨_, fd, F, He.glo_ok X G (c.fact 3 (f := (fun K => (He.Fa.glo "are_sights").ok K)) rfl)⟩⟩
  have t_contains : Tx K mg "contains" s_contains := ⟨let ⟨fd, F⟩ := c.def_ 4 (d := dd_contains) rfl; ⟨_, fd, F, He.glo_ok X G (c.fact 4 (f := (fun K => (He.Fa.glo "contains").ok K)) rfl)⟩⟩
  have t_count_marked : Tx K mg "count_marked" s_count_marked := ⟨let ⟨fd, F⟩ := c.def_ 5 (d := dd_count_marked) rfl; ⟨_, fd, F, He.glo_ok X G (c.fact 5 (f := (fun K => (He.Fa.glo "count_marked").ok K)) rfl)⟩⟩
  have t__law_churn : Tx K mg "_law_churn" s__law_churn := ⟨let ⟨fd, F⟩ := c.def_ 15 (d := dd__law_churn) rfl; ⟨_, fd, F, He.glo_ok X G (c.fact 6 (f := (fun K => (He.Fa.glo "_law_churn").ok K)) rfl)⟩⟩
  have t__law_dab : Tx K mg "_law_dab" s__law_dab := ⟨let ⟨fd, F⟩ := c.def_ 16 (d := dd__law_dab) rfl; ⟨_, fd, F, He.glo_ok X G (c.fact 7 (f := (fun K => (He.Fa.glo "_law_dab").ok K)) rfl)⟩⟩
  have t__law_marks : Tx K mg "_law_marks" s__law_marks := ⟨let ⟨fd, F⟩ := c.def_ 17 (d := dd__law_marks) rfl; ⟨_, fd, F, He.glo_ok X G (c.fact 8 (f := (fun K => (He.Fa.glo "_law_marks").ok K)) rfl)⟩⟩
  have t__law_cells : Tx K mg "_law_cells" s__law_cells := ⟨let ⟨fd, F⟩ := c.def_ 18 (d := dd__law_cells) rfl; ⟨_, fd, F, He.glo_ok X G (c.fact 9 (f := (fun K => (He.Fa.glo "_law_cells").ok K)) rfl)⟩⟩
  have t__law_looks : Tx K mg "_law_looks" s__law_looks := ⟨let ⟨fd, F⟩ := c.def_ 19 (d := dd__law_looks) rfl; ⟨_, fd, F, He.glo_ok X G (c.fact 10 (f := (fun K => (He.Fa.glo "_law_looks").ok K)) rfl)⟩⟩
  have t__law_inside : Tx K mg "_law_inside" s__law_inside := ⟨let ⟨fd, F⟩ := c.def_ 20 (d := dd__law_inside) rfl; ⟨_, fd, F, He.glo_ok X G (c.fact 11 (f := (fun K => (He.Fa.glo "_law_inside").ok K)) rfl)⟩⟩
  have t__law_few : Tx K mg "_law_few" s__law_few := ⟨let ⟨fd, F⟩ := c.def_ 21 (d := dd__law_few) rfl; ⟨_, fd, F, He.glo_ok X G (c.fact 12 (f := (fun K => (He.Fa.glo "_law_few").ok K)) rfl)⟩⟩
  have t__law_all : Tx K mg "_law_all" s__law_all := ⟨let ⟨fd, F⟩ := c.def_ 22 (d := dd__law_all) rfl; ⟨_, fd, F, He.glo_ok X G (c.fact 13 (f := (fun K => (He.Fa.glo "_law_all").ok K)) rfl)⟩⟩
  have t__law_told : Tx K mg "_law_told" s__law_told := ⟨let ⟨fd, F⟩ := c.def_ 23 (d := dd__law_told) rfl; ⟨_, fd, F, He.glo_ok X G (c.fact 14 (f := (fun K => (He.Fa.glo "_law_told").ok K)) rfl)⟩⟩
  have t__law_range : Tx K mg "_law_range" s__law_range := ⟨let ⟨fd, F⟩ := c.def_ 24 (d := dd__law_range) rfl; ⟨_, fd, F, He.glo_ok X G (c.fact 15 (f := (fun K => (He.Fa.glo "_law_range").ok K)) rfl)⟩⟩
  have t__law_right : Tx K mg "_law_right" s__law_right := ⟨let ⟨fd, F⟩ := c.def_ 25 (d := dd__law_right) rfl; ⟨_, fd, F, He.glo_ok X G (c.fact 16 (f := (fun K => (He.Fa.glo "_law_right").ok K)) rfl)⟩⟩
  have t_law : Tx K mg "law" s_law := ⟨let ⟨fd, F⟩ := c.def_ 26 (d := dd_law) rfl; ⟨_, fd, F, He.glo_ok X G (c.fact 17 (f := (fun K => (He.Fa.glo "law").ok K)) rfl)⟩⟩
  have m_int := He.free_ok X G (c.fact 25 (f := (fun K => (He.Fa.free "int").ok K)) rfl)
  have m_isinstance := He.free_ok X G (c.fact 26 (f := (fun K => (He.Fa.free "isinstance").ok K)) rfl)
  have m_bool := He.free_ok X G (c.fact 27 (f := (fun K => (He.Fa.free "bool").ok K)) rfl)
  have m_list := He.free_ok X G (c.fact 28 (f := (fun K => (He.Fa.free "list").ok K)) rfl)
  have m_len := He.free_ok X G (c.fact 29 (f := (fun K => (He.Fa.free "len").ok K)) rfl)
  have g_MOST_LINES := He.int_ok X G (c.fact 30 (f := (fun K => (He.Fa.int "MOST_LINES" 60).ok K)) rfl)
  have g_MOST_TABS := He.int_ok X G (c.fact 31 (f := (fun K => (He.Fa.int "MOST_TABS" 11).ok K)) rfl)
  have m_all := He.free_ok X G (c.fact 32 (f := (fun K => (He.Fa.free "all").ok K)) rfl)
  have m_tuple := He.free_ok X G (c.fact 33 (f := (fun K => (He.Fa.free "tuple").ok K)) rfl)
  have g_MOST_WIDTH := He.int_ok X G (c.fact 34 (f := (fun K => (He.Fa.int "MOST_WIDTH" 1000000000000000000000000000000).ok K)) rfl)
  have g_MOST_SIGHTS := He.int_ok X G (c.fact 35 (f := (fun K => (He.Fa.int "MOST_SIGHTS" 40).ok K)) rfl)
  have m_range := He.free_ok X G (c.fact 36 (f := (fun K => (He.Fa.free "range").ok K)) rfl)
  have m_sum := He.free_ok X G (c.fact 37 (f := (fun K => (He.Fa.free "sum").ok K)) rfl)
  have m_max := He.free_ok X G (c.fact 38 (f := (fun K => (He.Fa.free "max").ok K)) rfl)
  have e_InvalidTabs : ExcF K mg "InvalidTabs" (He.ga K "InvalidTabs") := let ⟨a, b, d, e⟩ := He.exc_ok (c.fact 40 (f := (fun K => (He.Fa.exc "InvalidTabs").ok K)) rfl); ⟨a, He.glo_ok X G (c.fact 39 (f := (fun K => (He.Fa.glo "InvalidTabs").ok K)) rfl), b, d, e⟩
  have e_InvalidSights : ExcF K mg "InvalidSights" (He.ga K "InvalidSights") := let ⟨a, b, d, e⟩ := He.exc_ok (c.fact 42 (f := (fun K => (He.Fa.exc "InvalidSights").ok K)) rfl); ⟨a, He.glo_ok X G (c.fact 41 (f := (fun K => (He.Fa.glo "InvalidSights").ok K)) rfl), b, d, e⟩
  have cl_Sights := He.cls_ok (c.fact 43 (f := (fun K => (He.Fa.cls "Sights").ok K)) rfl)
  have na_Sights_held_tabs := He.noat_ok (c.fact 44 (f := (fun K => (He.Fa.noat "Sights" "held_tabs").ok K)) rfl)
  have na_Sights_held_sights := He.noat_ok (c.fact 45 (f := (fun K => (He.Fa.noat "Sights" "held_sights").ok K)) rfl)
  have m_min := He.free_ok X G (c.fact 46 (f := (fun K => (He.Fa.free "min").ok K)) rfl)
  have m_enumerate := He.free_ok X G (c.fact 47 (f := (fun K => (He.Fa.free "enumerate").ok K)) rfl)
  have e_InvalidLine : ExcF K mg "InvalidLine" (He.ga K "InvalidLine") := let ⟨a, b, d, e⟩ := He.exc_ok (c.fact 53 (f := (fun K => (He.Fa.exc "InvalidLine").ok K)) rfl); ⟨a, He.glo_ok X G (c.fact 52 (f := (fun K => (He.Fa.glo "InvalidLine").ok K)) rfl), b, d, e⟩
  have e_InvalidColumn : ExcF K mg "InvalidColumn" (He.ga K "InvalidColumn") := let ⟨a, b, d, e⟩ := He.exc_ok (c.fact 55 (f := (fun K => (He.Fa.exc "InvalidColumn").ok K)) rfl); ⟨a, He.glo_ok X G (c.fact 54 (f := (fun K => (He.Fa.glo "InvalidColumn").ok K)) rfl), b, d, e⟩
  have m_sorted := He.free_ok X G (c.fact 56 (f := (fun K => (He.Fa.free "sorted").ok K)) rfl)
  have m_abs := He.free_ok X G (c.fact 57 (f := (fun K => (He.Fa.free "abs").ok K)) rfl)
  have xm_NotPossible : ∀ C ∈ ([(He.ga K "NotPossible")] : List Addr), PySem.W.exmOne K (.ref C) (.ref (He.ga K "NotPossible")) = some true := by
    intro q hq
    simp only [List.mem_cons, List.not_mem_nil, or_false] at hq
    subst hq
    exact bExm_ok (c.fact 61 (f := (bExm "NotPossible" "NotPossible")) rfl)
  have xf_reason : ∀ D ∈ ([(He.ga K "NotPossible")] : List Addr), XFldF K D "reason" := by
    intro q hq
    simp only [List.mem_cons, List.not_mem_nil, or_false] at hq
    subst hq
    exact bXFld_ok (c.fact 24 (f := (bXFld "NotPossible" "reason")) rfl)
  have h_NotPossible := He.glo_ok X G (c.fact 18 (f := (fun K => (He.Fa.glo "NotPossible").ok K)) rfl)
  have h_Sights := He.glo_ok X G (c.fact 64 (f := (fun K => (He.Fa.glo "Sights").ok K)) rfl)
  have m_set := He.free_ok X G (c.fact 65 (f := (fun K => (He.Fa.free "set").ok K)) rfl)
  have mk := bModK_ok (c.fact 66 (f := bModK) rfl)
  have m_repr := He.free_ok X G (c.fact 67 (f := (fun K => (He.Fa.free "repr").ok K)) rfl)
  have all : ∀ base : Heap, CalG P wd K mg base "law" s_law 8 P_law sp_law := fun base => by
    have xi_NotPossible : XIni P wd K mg base "NotPossible" (He.ga K "NotPossible") 1 "reason" := by
      obtain ⟨fd, F⟩ := c.def_ 27 (d := dd_NotPossible___init__) rfl
      have b := FunD.bindsN (ps := (["self", "reason"] : List Str)) F fun _ _ _ _ _ _ us hl => match us, hl with | [_, _], _ => rfl
      obtain ⟨oc, od, dV, kV, doc, pm, an, cdv, ct, osl, rfl, lk, hcd, hD, hK⟩ := F.ex
      have mt := He.meth_ok (c.fact 20 (f := (fun K => (He.Fa.meth "NotPossible" "__init__").ok K)) rfl)
      have ox := bOex_ok (c.fact 22 (f := (bOex "NotPossible")) rfl)
      exact ⟨ox, He.glo_ok X G (c.fact 18 (f := (fun K => (He.Fa.glo "NotPossible").ok K)) rfl), _, _, _, mt.at_, beq_iff_eq.mp mt.fn, init_ok (k := 0) ox (He.noat_ok (c.fact 21 (f := (fun K => (He.Fa.noat "NotPossible" "reason").ok K)) rfl)) lk hcd sc_NotPossible___init__ (fun A outer s H E hr => pss_cons (ps_expr (pe_vbinit (bVeB_ok (c.fact 23 (f := (bVeB "PageError")) rfl)) rfl (He.glo_ok X G (c.fact 19 (f := (fun K => (He.Fa.glo "PageError").ok K)) rfl)) (pa_cons (pe_var (i := 0) rfl (Or.inl rfl) (by decide) (by decide)) (pa_cons pe_str pa_nil)))) (pss_one (ps_ost (pe_var (i := 0) rfl (Or.inl rfl) (by decide) (by decide)) (pe_var (i := 1) rfl (Or.inl rfl) (by decide) (by decide))))), b⟩
    have c_is_whole : CalG P wd K mg base "is_whole" s_is_whole 1 P_is_whole sp_is_whole := calG_ok t_is_whole (fun _ _ _ _ _ _ us hl => match us, hl with | [_, _, _], _ => rfl) sc_is_whole (len_is_whole) fun f cdv A outer s H E hG hr => let ⟨t, jb⟩ := d_is_whole hG hr m_int m_isinstance m_bool; ⟨t, _, jb, p_is_whole⟩
    have c_contains : CalG P wd K mg base "contains" s_contains 1 P_contains sp_contains := calG_ok t_contains (fun _ _ _ _ _ _ us hl => match us, hl with | [_, _, _], _ => rfl) sc_contains (len_contains) fun f cdv A outer s H E hG hr => let ⟨t, jb⟩ := d_contains hG hr ; ⟨t, _, jb, p_contains⟩
    have c_count_marked : CalG P wd K mg base "count_marked" s_count_marked 1 P_count_marked sp_count_marked := calG_ok t_count_marked (fun _ _ _ _ _ _ us hl => match us, hl with | [_, _, _], _ => rfl) sc_count_marked (len_count_marked) fun f cdv A outer s H E hG hr => let ⟨t, jb⟩ := d_count_marked hG hr m_range m_list m_sum m_max; ⟨t, _, jb, p_count_marked⟩
    have k_Sights_least_widths_1 : FnK P wd K mg base 1 ((fun K => He.ma K (He.ga K "Sights") "least_widths") K) ([] : List Str) (pkP 1 [0] [] (sp_Sights_least_widths (He.ga K "Sights"))) := (let ⟨fd, F⟩ := c.def_ 7 (d := dd_Sights_least_widths) rfl; fnK_plain (ms := []) (md := []) (ks := ([] : List Str)) (perm := [0]) (n := 1) F sc_Sights_least_widths (fun q hq => nomatch hq) (fun _ => .nil) (len_Sights_least_widths) (fun D kV doc pm an cdv ct us mv ws _ l1 l2 l3 => match us, mv, ws, l1, l2, l3 with | [_], [], [], _, _, _ => rfl) fun cdv A outer s H E hG hr => let ⟨t, jb⟩ := d_Sights_least_widths hG hr cl_Sights na_Sights_held_tabs na_Sights_held_sights m_min; ⟨t, _, jb, p_Sights_least_widths (He.ga K "Sights")⟩)
    have mt_Sights_least_widths_1 : MethK P wd K mg base (He.ga K "Sights") "least_widths" 1 ([] : List Str) (pkP 1 [0] [] (sp_Sights_least_widths (He.ga K "Sights"))) := ⟨He.cls_ok (c.fact 43 (f := (fun K => (He.Fa.cls "Sights").ok K)) rfl), _, He.meth_ok (c.fact 48 (f := (fun K => (He.Fa.meth "Sights" "least_widths").ok K)) rfl), k_Sights_least_widths_1⟩
    have c__law_churn : CalG P wd K mg base "_law_churn" s__law_churn 1 P__law_churn sp__law_churn := calG_ok t__law_churn (fun _ _ _ _ _ _ us hl => match us, hl with | [_, _], _ => rfl) sc__law_churn (len__law_churn) fun f cdv A outer s H E hG hr => let ⟨t, jb⟩ := d__law_churn hG hr m_len m_abs m_max; ⟨t, _, jb, p__law_churn⟩
    have c__law_dab : CalG P wd K mg base "_law_dab" s__law_dab 1 P__law_dab sp__law_dab := calG_ok t__law_dab (fun _ _ _ _ _ _ us hl => match us, hl with | [_, _], _ => rfl) sc__law_dab (len__law_dab) fun f cdv A outer s H E hG hr => let ⟨t, jb⟩ := d__law_dab hG hr ; ⟨t, _, jb, p__law_dab⟩
    have c__law_inside : CalG P wd K mg base "_law_inside" s__law_inside 1 P__law_inside sp__law_inside := calG_ok t__law_inside (fun _ _ _ _ _ _ us hl => match us, hl with | [_, _, _], _ => rfl) sc__law_inside (len__law_inside) fun f cdv A outer s H E hG hr => let ⟨t, jb⟩ := d__law_inside hG hr ; ⟨t, _, jb, p__law_inside⟩
    have c__law_few : CalG P wd K mg base "_law_few" s__law_few 1 P__law_few sp__law_few := calG_ok t__law_few (fun _ _ _ _ _ _ us hl => match us, hl with | [_, _], _ => rfl) sc__law_few (len__law_few) fun f cdv A outer s H E hG hr => let ⟨t, jb⟩ := d__law_few hG hr m_range m_len m_sorted; ⟨t, _, jb, p__law_few⟩
    have c_are_tabs : CalG P wd K mg base "are_tabs" s_are_tabs 2 P_are_tabs sp_are_tabs := calG_ok t_are_tabs (fun _ _ _ _ _ _ us hl => match us, hl with | [_], _ => rfl) sc_are_tabs (len_are_tabs) fun f cdv A outer s H E hG hr => let ⟨t, jb⟩ := d_are_tabs hG hr m_list m_isinstance m_len g_MOST_LINES c_is_whole g_MOST_TABS m_all; ⟨t, _, jb, p_are_tabs⟩
    have c_is_sight : CalG P wd K mg base "is_sight" s_is_sight 2 P_is_sight sp_is_sight := calG_ok t_is_sight (fun _ _ _ _ _ _ us hl => match us, hl with | [_, _], _ => rfl) sc_is_sight (len_is_sight) fun f cdv A outer s H E hG hr => let ⟨t, jb⟩ := d_is_sight hG hr m_tuple m_isinstance m_len c_is_whole g_MOST_TABS g_MOST_WIDTH m_all; ⟨t, _, jb, p_is_sight⟩
    have k_Sights_lesser_sight_4 : FnK P wd K mg base 2 ((fun K => He.ma K (He.ga K "Sights") "lesser_sight") K) ([] : List Str) (pkP 4 [0, 1, 2, 3] [] (sp_Sights_lesser_sight (He.ga K "Sights"))) := (let ⟨fd, F⟩ := c.def_ 8 (d := dd_Sights_lesser_sight) rfl; fnK_plain (ms := []) (md := []) (ks := ([] : List Str)) (perm := [0, 1, 2, 3]) (n := 4) F sc_Sights_lesser_sight (fun q hq => nomatch hq) (fun _ => .nil) (len_Sights_lesser_sight) (fun D kV doc pm an cdv ct us mv ws _ l1 l2 l3 => match us, mv, ws, l1, l2, l3 with | [_, _, _, _], [], [], _, _, _ => rfl) fun cdv A outer s H E hG hr => let ⟨t, jb⟩ := d_Sights_lesser_sight hG hr cl_Sights na_Sights_held_sights m_enumerate c_contains; ⟨t, _, jb, p_Sights_lesser_sight (He.ga K "Sights")⟩)
    have mt_Sights_lesser_sight_4 : MethK P wd K mg base (He.ga K "Sights") "lesser_sight" 2 ([] : List Str) (pkP 4 [0, 1, 2, 3] [] (sp_Sights_lesser_sight (He.ga K "Sights"))) := ⟨He.cls_ok (c.fact 43 (f := (fun K => (He.Fa.cls "Sights").ok K)) rfl), _, He.meth_ok (c.fact 49 (f := (fun K => (He.Fa.meth "Sights" "lesser_sight").ok K)) rfl), k_Sights_lesser_sight_4⟩
    have c__law_marks : CalG P wd K mg base "_law_marks" s__law_marks 2 P__law_marks sp__law_marks := calG_ok t__law_marks (fun _ _ _ _ _ _ us hl => match us, hl with | [_, _, _], _ => rfl) sc__law_marks (len__law_marks) fun f cdv A outer s H E hG hr => let ⟨t, jb⟩ := d__law_marks hG hr c__law_dab m_range m_min m_max; ⟨t, _, jb, p__law_marks⟩
    have c__law_cells : CalG P wd K mg base "_law_cells" s__law_cells 2 P__law_cells sp__law_cells := calG_ok t__law_cells (fun _ _ _ _ _ _ us hl => match us, hl with | [_, _, _], _ => rfl) sc__law_cells (len__law_cells) fun f cdv A outer s H E hG hr => let ⟨t, jb⟩ := d__law_cells hG hr m_range c__law_dab; ⟨t, _, jb, p__law_cells⟩
    have c__law_looks : CalG P wd K mg base "_law_looks" s__law_looks 2 P__law_looks sp__law_looks := calG_ok t__law_looks (fun _ _ _ _ _ _ us hl => match us, hl with | [_, _, _, _, _], _ => rfl) sc__law_looks (len__law_looks) fun f cdv A outer s H E hG hr => let ⟨t, jb⟩ := d__law_looks hG hr m_enumerate m_int m_range c__law_dab m_len m_max; ⟨t, _, jb, p__law_looks⟩
    have c__law_all : CalG P wd K mg base "_law_all" s__law_all 2 P__law_all sp__law_all := calG_ok t__law_all (fun _ _ _ _ _ _ us hl => match us, hl with | [_, _], _ => rfl) sc__law_all (len__law_all) fun f cdv A outer s H E hG hr => let ⟨t, jb⟩ := d__law_all hG hr m_max m_range m_enumerate c__law_inside; ⟨t, _, jb, p__law_all⟩
    have c_are_sights : CalG P wd K mg base "are_sights" s_are_sights 3 P_are_sights sp_are_sights := calG_ok t_are_sights (fun _ _ _ _ _ _ us hl => match us, hl with | [_, _], _ => rfl) sc_are_sights (len_are_sights) fun f cdv A outer s H E hG hr => let ⟨t, jb⟩ := d_are_sights hG hr m_list m_isinstance m_len g_MOST_SIGHTS c_is_sight m_all; ⟨t, _, jb, p_are_sights⟩
    have k_Sights_conflict_1 : FnK P wd K mg base 3 ((fun K => He.ma K (He.ga K "Sights") "conflict") K) ([] : List Str) (pkP 1 [0] [] (sp_Sights_conflict (He.ga K "Sights"))) := (let ⟨fd, F⟩ := c.def_ 9 (d := dd_Sights_conflict) rfl; fnK_plain (ms := []) (md := []) (ks := ([] : List Str)) (perm := [0]) (n := 1) F sc_Sights_conflict (fun q hq => nomatch hq) (fun _ => .nil) (len_Sights_conflict) (fun D kV doc pm an cdv ct us mv ws _ l1 l2 l3 => match us, mv, ws, l1, l2, l3 with | [_], [], [], _, _, _ => rfl) fun cdv A outer s H E hG hr => let ⟨t, jb⟩ := d_Sights_conflict hG hr mt_Sights_least_widths_1 cl_Sights na_Sights_held_sights m_enumerate m_max m_range mt_Sights_lesser_sight_4; ⟨t, _, jb, p_Sights_conflict (He.ga K "Sights")⟩)
    have mt_Sights_conflict_1 : MethK P wd K mg base (He.ga K "Sights") "conflict" 3 ([] : List Str) (pkP 1 [0] [] (sp_Sights_conflict (He.ga K "Sights"))) := ⟨He.cls_ok (c.fact 43 (f := (fun K => (He.Fa.cls "Sights").ok K)) rfl), _, He.meth_ok (c.fact 50 (f := (fun K => (He.Fa.meth "Sights" "conflict").ok K)) rfl), k_Sights_conflict_1⟩
    have k_Sights___init___3 : FnK P wd K mg base 4 ((fun K => He.ma K (He.ga K "Sights") "__init__") K) ([] : List Str) (pkP 3 [0, 1, 2] [] (sp_Sights___init__ (He.ga K "Sights"))) := (let ⟨fd, F⟩ := c.def_ 6 (d := dd_Sights___init__) rfl; fnK_plain (ms := []) (md := []) (ks := ([] : List Str)) (perm := [0, 1, 2]) (n := 3) F sc_Sights___init__ (fun q hq => nomatch hq) (fun _ => .nil) (len_Sights___init__) (fun D kV doc pm an cdv ct us mv ws _ l1 l2 l3 => match us, mv, ws, l1, l2, l3 with | [_, _, _], [], [], _, _, _ => rfl) fun cdv A outer s H E hG hr => let ⟨t, jb⟩ := d_Sights___init__ hG hr c_are_tabs e_InvalidTabs c_are_sights e_InvalidSights m_list cl_Sights na_Sights_held_tabs na_Sights_held_sights; ⟨t, _, jb, p_Sights___init__ (He.ga K "InvalidTabs") (He.ga K "InvalidSights") (He.ga K "Sights")⟩)
    have mk_Sights___init___3 : CtorK P wd K mg base (He.ga K "Sights") 4 ([] : List Str) (pkP 3 [0, 1, 2] [] (sp_Sights___init__ (He.ga K "Sights"))) := ⟨_, He.mkr_ok (c.fact 63 (f := (fun K => (He.Fa.mkr "Sights").ok K)) rfl), k_Sights___init___3⟩
    have k_Sights_agreed_widths_1 : FnK P wd K mg base 4 ((fun K => He.ma K (He.ga K "Sights") "agreed_widths") K) ([] : List Str) (pkP 1 [0] [] (sp_Sights_agreed_widths (He.ga K "Sights") (He.ga K "NotPossible"))) := (let ⟨fd, F⟩ := c.def_ 10 (d := dd_Sights_agreed_widths) rfl; fnK_plain (ms := []) (md := []) (ks := ([] : List Str)) (perm := [0]) (n := 1) F sc_Sights_agreed_widths (fun q hq => nomatch hq) (fun _ => .nil) (len_Sights_agreed_widths) (fun D kV doc pm an cdv ct us mv ws _ l1 l2 l3 => match us, mv, ws, l1, l2, l3 with | [_], [], [], _, _, _ => rfl) fun cdv A outer s H E hG hr => let ⟨t, jb⟩ := d_Sights_agreed_widths hG hr mt_Sights_conflict_1 xi_NotPossible mt_Sights_least_widths_1; ⟨t, _, jb, p_Sights_agreed_widths (He.ga K "Sights") (He.ga K "NotPossible")⟩)
    have mt_Sights_agreed_widths_1 : MethK P wd K mg base (He.ga K "Sights") "agreed_widths" 4 ([] : List Str) (pkP 1 [0] [] (sp_Sights_agreed_widths (He.ga K "Sights") (He.ga K "NotPossible"))) := ⟨He.cls_ok (c.fact 43 (f := (fun K => (He.Fa.cls "Sights").ok K)) rfl), _, He.meth_ok (c.fact 51 (f := (fun K => (He.Fa.meth "Sights" "agreed_widths").ok K)) rfl), k_Sights_agreed_widths_1⟩
    have k_Sights_bounds_1 : FnK P wd K mg base 5 ((fun K => He.ma K (He.ga K "Sights") "bounds") K) ([] : List Str) (pkP 1 [0] [] (sp_Sights_bounds (He.ga K "Sights") (He.ga K "NotPossible"))) := (let ⟨fd, F⟩ := c.def_ 11 (d := dd_Sights_bounds) rfl; fnK_plain (ms := []) (md := []) (ks := ([] : List Str)) (perm := [0]) (n := 1) F sc_Sights_bounds (fun q hq => nomatch hq) (fun _ => .nil) (len_Sights_bounds) (fun D kV doc pm an cdv ct us mv ws _ l1 l2 l3 => match us, mv, ws, l1, l2, l3 with | [_], [], [], _, _, _ => rfl) fun cdv A outer s H E hG hr => let ⟨t, jb⟩ := d_Sights_bounds hG hr mt_Sights_agreed_widths_1; ⟨t, _, jb, p_Sights_bounds (He.ga K "Sights") (He.ga K "NotPossible")⟩)
    have mt_Sights_bounds_1 : MethK P wd K mg base (He.ga K "Sights") "bounds" 5 ([] : List Str) (pkP 1 [0] [] (sp_Sights_bounds (He.ga K "Sights") (He.ga K "NotPossible"))) := ⟨He.cls_ok (c.fact 43 (f := (fun K => (He.Fa.cls "Sights").ok K)) rfl), _, He.meth_ok (c.fact 58 (f := (fun K => (He.Fa.meth "Sights" "bounds").ok K)) rfl), k_Sights_bounds_1⟩
    have k_Sights_cell_range_3 : FnK P wd K mg base 5 ((fun K => He.ma K (He.ga K "Sights") "cell_range") K) ([] : List Str) (pkP 3 [0, 1, 2] [] (sp_Sights_cell_range (He.ga K "Sights") (He.ga K "InvalidLine") (He.ga K "InvalidColumn") (He.ga K "NotPossible"))) := (let ⟨fd, F⟩ := c.def_ 12 (d := dd_Sights_cell_range) rfl; fnK_plain (ms := []) (md := []) (ks := ([] : List Str)) (perm := [0, 1, 2]) (n := 3) F sc_Sights_cell_range (fun q hq => nomatch hq) (fun _ => .nil) (len_Sights_cell_range) (fun D kV doc pm an cdv ct us mv ws _ l1 l2 l3 => match us, mv, ws, l1, l2, l3 with | [_, _, _], [], [], _, _, _ => rfl) fun cdv A outer s H E hG hr => let ⟨t, jb⟩ := d_Sights_cell_range hG hr c_is_whole cl_Sights na_Sights_held_tabs m_len e_InvalidLine e_InvalidColumn mt_Sights_agreed_widths_1 na_Sights_held_sights c_contains; ⟨t, _, jb, p_Sights_cell_range (He.ga K "Sights") (He.ga K "InvalidLine") (He.ga K "InvalidColumn") (He.ga K "NotPossible")⟩)
    have mt_Sights_cell_range_3 : MethK P wd K mg base (He.ga K "Sights") "cell_range" 5 ([] : List Str) (pkP 3 [0, 1, 2] [] (sp_Sights_cell_range (He.ga K "Sights") (He.ga K "InvalidLine") (He.ga K "InvalidColumn") (He.ga K "NotPossible"))) := ⟨He.cls_ok (c.fact 43 (f := (fun K => (He.Fa.cls "Sights").ok K)) rfl), _, He.meth_ok (c.fact 62 (f := (fun K => (He.Fa.meth "Sights" "cell_range").ok K)) rfl), k_Sights_cell_range_3⟩
    have k_Sights_cell_range_1_column_line : FnK P wd K mg base 5 ((fun K => He.ma K (He.ga K "Sights") "cell_range") K) (["column", "line"] : List Str) (pkP 1 [0, 2, 1] [] (sp_Sights_cell_range (He.ga K "Sights") (He.ga K "InvalidLine") (He.ga K "InvalidColumn") (He.ga K "NotPossible"))) := (let ⟨fd, F⟩ := c.def_ 12 (d := dd_Sights_cell_range) rfl; fnK_plain (ms := []) (md := []) (ks := (["column", "line"] : List Str)) (perm := [0, 2, 1]) (n := 1) F sc_Sights_cell_range (fun q hq => nomatch hq) (fun _ => .nil) (len_Sights_cell_range) (fun D kV doc pm an cdv ct us mv ws _ l1 l2 l3 => match us, mv, ws, l1, l2, l3 with | [_], [], [_, _], _, _, _ => rfl) fun cdv A outer s H E hG hr => let ⟨t, jb⟩ := d_Sights_cell_range hG hr c_is_whole cl_Sights na_Sights_held_tabs m_len e_InvalidLine e_InvalidColumn mt_Sights_agreed_widths_1 na_Sights_held_sights c_contains; ⟨t, _, jb, p_Sights_cell_range (He.ga K "Sights") (He.ga K "InvalidLine") (He.ga K "InvalidColumn") (He.ga K "NotPossible")⟩)
    have mt_Sights_cell_range_1_column_line : MethK P wd K mg base (He.ga K "Sights") "cell_range" 5 (["column", "line"] : List Str) (pkP 1 [0, 2, 1] [] (sp_Sights_cell_range (He.ga K "Sights") (He.ga K "InvalidLine") (He.ga K "InvalidColumn") (He.ga K "NotPossible"))) := ⟨He.cls_ok (c.fact 43 (f := (fun K => (He.Fa.cls "Sights").ok K)) rfl), _, He.meth_ok (c.fact 62 (f := (fun K => (He.Fa.meth "Sights" "cell_range").ok K)) rfl), k_Sights_cell_range_1_column_line⟩
    have k_Sights_ways_1 : FnK P wd K mg base 5 ((fun K => He.ma K (He.ga K "Sights") "ways") K) ([] : List Str) (pkP 1 [0] [] (sp_Sights_ways (He.ga K "Sights") (He.ga K "NotPossible"))) := (let ⟨fd, F⟩ := c.def_ 13 (d := dd_Sights_ways) rfl; fnK_plain (ms := []) (md := []) (ks := ([] : List Str)) (perm := [0]) (n := 1) F sc_Sights_ways (fun q hq => nomatch hq) (fun _ => .nil) (len_Sights_ways) (fun D kV doc pm an cdv ct us mv ws _ l1 l2 l3 => match us, mv, ws, l1, l2, l3 with | [_], [], [], _, _, _ => rfl) fun cdv A outer s H E hG hr => let ⟨t, jb⟩ := d_Sights_ways hG hr mt_Sights_agreed_widths_1 cl_Sights na_Sights_held_sights m_sorted m_enumerate m_len c_count_marked; ⟨t, _, jb, p_Sights_ways (He.ga K "Sights") (He.ga K "NotPossible")⟩)
    have mt_Sights_ways_1 : MethK P wd K mg base (He.ga K "Sights") "ways" 5 ([] : List Str) (pkP 1 [0] [] (sp_Sights_ways (He.ga K "Sights") (He.ga K "NotPossible"))) := ⟨He.cls_ok (c.fact 43 (f := (fun K => (He.Fa.cls "Sights").ok K)) rfl), _, He.meth_ok (c.fact 59 (f := (fun K => (He.Fa.meth "Sights" "ways").ok K)) rfl), k_Sights_ways_1⟩
    have k_Sights_widest_1 : FnK P wd K mg base 5 ((fun K => He.ma K (He.ga K "Sights") "widest") K) ([] : List Str) (pkP 1 [0] [] (sp_Sights_widest (He.ga K "Sights") (He.ga K "NotPossible"))) := (let ⟨fd, F⟩ := c.def_ 14 (d := dd_Sights_widest) rfl; fnK_plain (ms := []) (md := []) (ks := ([] : List Str)) (perm := [0]) (n := 1) F sc_Sights_widest (fun q hq => nomatch hq) (fun _ => .nil) (len_Sights_widest) (fun D kV doc pm an cdv ct us mv ws _ l1 l2 l3 => match us, mv, ws, l1, l2, l3 with | [_], [], [], _, _, _ => rfl) fun cdv A outer s H E hG hr => let ⟨t, jb⟩ := d_Sights_widest hG hr mt_Sights_agreed_widths_1; ⟨t, _, jb, p_Sights_widest (He.ga K "Sights") (He.ga K "NotPossible")⟩)
    have mt_Sights_widest_1 : MethK P wd K mg base (He.ga K "Sights") "widest" 5 ([] : List Str) (pkP 1 [0] [] (sp_Sights_widest (He.ga K "Sights") (He.ga K "NotPossible"))) := ⟨He.cls_ok (c.fact 43 (f := (fun K => (He.Fa.cls "Sights").ok K)) rfl), _, He.meth_ok (c.fact 60 (f := (fun K => (He.Fa.meth "Sights" "widest").ok K)) rfl), k_Sights_widest_1⟩
    have c__law_told : CalG P wd K mg base "_law_told" s__law_told 6 P__law_told (sp__law_told (He.ga K "Sights")) := calG_ok t__law_told (fun _ _ _ _ _ _ us hl => match us, hl with | [_, _], _ => rfl) sc__law_told (len__law_told) fun f cdv A outer s H E hG hr => let ⟨t, jb⟩ := d__law_told hG hr mt_Sights_bounds_1 mt_Sights_ways_1 mt_Sights_widest_1 xm_NotPossible xf_reason h_NotPossible; ⟨t, _, jb, p__law_told (He.ga K "Sights") (He.ga K "NotPossible")⟩
    have c__law_range : CalG P wd K mg base "_law_range" s__law_range 6 P__law_range (sp__law_range (He.ga K "Sights")) := calG_ok t__law_range (fun _ _ _ _ _ _ us hl => match us, hl with | [_, _, _], _ => rfl) sc__law_range (len__law_range) fun f cdv A outer s H E hG hr => let ⟨t, jb⟩ := d__law_range hG hr mt_Sights_cell_range_3 xm_NotPossible xf_reason h_NotPossible; ⟨t, _, jb, p__law_range (He.ga K "Sights") (He.ga K "NotPossible") (He.ga K "InvalidLine") (He.ga K "InvalidColumn")⟩
    have c__law_right : CalG P wd K mg base "_law_right" s__law_right 7 P__law_right sp__law_right := calG_ok t__law_right (fun _ _ _ _ _ _ us hl => match us, hl with | [_, _, _], _ => rfl) sc__law_right (len__law_right) fun f cdv A outer s H E hG hr => let ⟨t, jb⟩ := d__law_right hG hr c__law_all mk_Sights___init___3 h_Sights mt_Sights_conflict_1 m_range c__law_told c__law_range m_enumerate m_sorted m_set m_list mt_Sights_cell_range_3 mk m_repr mt_Sights_cell_range_1_column_line mt_Sights_widest_1 mt_Sights_ways_1 m_len; ⟨t, _, jb, p__law_right (He.ga K "Sights") (He.ga K "InvalidLine") (He.ga K "InvalidColumn") (He.ga K "NotPossible")⟩
    have c_law : CalG P wd K mg base "law" s_law 8 P_law sp_law := calG_ok t_law (fun _ _ _ _ _ _ us hl => match us, hl with | [_], _ => rfl) sc_law (len_law) fun f cdv A outer s H E hG hr => let ⟨t, jb⟩ := d_law hG hr m_len m_min m_max m_range c__law_churn c__law_marks c__law_cells c__law_few c__law_looks c__law_dab c__law_right; ⟨t, _, jb, p_law⟩
    exact c_law
  obtain ⟨fd, F⟩ := c.def_ 26 (d := dd_law) rfl
  have e := hfa.symm.trans (He.glo_ok X G (c.fact 17 (f := (fun K => (He.Fa.glo "law").ok K)) rfl))
  cases e
  have b := FunD.bindsA (ps := ["_law_script"]) F fun _ _ _ _ _ _ us hl => match us, hl with | [_], _ => rfl
  refine ⟨fd, fun s v => b s [v] rfl, fun base _ _ => ?_⟩
  obtain ⟨f2, fd2, F2, hm, FS, _⟩ := (all base).ex
  have e2 := hfa.symm.trans hm
  cases e2
  have ed : fd2 = fd := fun_one FS F
  rw [← ed]
  exact F2
end DL
open PySem PySem.W PySem.Calls PyProof.Rows
theorem PySem.Challenge.cw_runtabs_k44_few_cells_by_all_widths_holds : PySem.Challenge.rw_runtabs_k44_few_cells_by_all_widths.Holds := by
  w_on; o_law
  refine HandSHeadRun.head_any (r := OpenLaw.row PySem.Challenge.rw_runtabs_k44_few_cells_by_all_widths) (q := view (OpenLaw.row PySem.Challenge.rw_runtabs_k44_few_cells_by_all_widths).prog [32]) (H := DL.hkL) (ob := DL.obL) (M := 8000) (loose := DL.othersL) (d := HandSHeadRun.topDef (OpenLaw.row PySem.Challenge.rw_runtabs_k44_few_cells_by_all_widths).prog 32) (kwd := []) DL.obL_eq
    (by kernel_rfl) (fun s => by kernel_rfl) DL.runL (by kernel_rfl) (by kernel_rfl) (by kernel_rfl) (by rfl) (by first | assumption | decide +kernel) (by decide +kernel) ⟨rfl, rfl, rfl, rfl, rfl, by decide +kernel⟩ ?hw ?hc
  case hw => w_witness2
  case hc =>
    refine DL.walk_end (l := PySem.Challenge.rw_runtabs_k44_few_cells_by_all_widths) (n := 63) (k := 8) (x := "_law_script") rfl (by decide) (by kernel_rfl) ⟨rfl, by decide, by decide⟩ ?F
    intro w mg fa h Y G hmg0
    obtain ⟨K, KX, c⟩ := Y
    have hmg : mg ("law" : PySem.Str) = some (.ref fa) := by
      have e : (HandSHeadRun.topDef (OpenLaw.row PySem.Challenge.rw_runtabs_k44_few_cells_by_all_widths).prog 32).name = ("law" : PySem.Str) := by kernel_rfl
      rw [← e]
      exact hmg0
    obtain ⟨fd, hb, hF⟩ := DL.factsL (P := (PySem.Challenge.rw_runtabs_k44_few_cells_by_all_widths).prog) (wd := w) KX G hmg c
    exact ⟨K, fd, DL.sp_law, KX, hb, fun ns hl hb => ⟨ns, rfl, fun _ => rfl⟩, hF⟩
