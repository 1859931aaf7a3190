import PyProof.Rows.All
import Wide.All
import OpenK.AllK
import Wide.FinOn
import HandS.ForMost
import HandS.ForExc
import HandS.CallSlots
import HandS.ExcIs
import HandS.TryOnly
import HandS.TupAny
import HandS.Deep
import HandS.IsInst
import HandS.Conv
import HandS.Zip
import HandS.SortKw
import HandS.TupMul
import KE.DataMinMax
import HandS.Walk
import HandS.Rev
import KE.GoesEnum
import HandS.DictComp
import HandS.Style
import PyProof.Rows.SortShellAny
import HandS.ExcValue
import HandS.RevTup
import HandS.NamedTupSort
import KE.KSortTupG
import KE.KDictDisplayH
import KE.KTupSum
import HandS.Strs
import PyProof.TupleOfSeq
import PySem.Challenge.RW_tablelaws_k26_counts
set_option Elab.async false
set_option linter.all false
set_option maxRecDepth 100000
set_option maxHeartbeats 4000000
namespace Fn
open PySem L2
/-- own values: what never changes is told by its content -/
inductive U where
  | non | bl (b : Bool) | int (i : Int) | str (x : Str) | ty (n : String)
  | tup (xs : List U)
  /-- a list that nobody changes any more -/
  | fl (xs : List U)
  /-- the script -/
  | scr (xs : List Int)
  /-- an instance that nobody changes any more -/
  | ob (c : Nat) (fs : List U)
  /-- the i-th object of the own heap -/
  | ref (i : Nat)
  /-- a tuple whose object is known, without a dict -/
  | tx (xs : List U)
inductive UO where
  | lst (xs : List U)
  | dk (kvs : List (Key × U))
  | dt (kvs : List (List Key × U))
  | ins (c : Nat) (fs : List U)
structure Exc where
  c : Nat
  fs : List U
/-- what is fixed through the law: the written part, the classes' addresses, their attributes in order -/
structure Cfg where
  K : PySem.W.Frag
  cl : Nat → Addr
  ly : Nat → List Str
  kt : List V → Prop
/-- a tuple at a; what kt does not let stands in the heap itself -/
def TH (G : Cfg) (H : Hp) (a : Addr) (vs : List V) : Prop := SqT G.K H a vs ∧ (G.kt vs ∨ H a = some (.tup vs))
theorem TH.new {G : Cfg} {H : Hp} {a : Addr} {vs : List V} (h : H a = some (.tup vs)) : TH G H a vs := ⟨SqT.of h, .inr h⟩
inductive Rs (α : Type) where
  | ok (a : α) (h : List UO)
  | ex (e : Exc) (h : List UO)
  | no
abbrev Lo := List (Option U)
inductive Rt where
  | nx (us : Lo) (h : List UO)
  | bk (us : Lo) (h : List UO)
  | ct (us : Lo) (h : List UO)
  | rt (u : U) (h : List UO)
  | ex (e : Exc) (us : Lo) (h : List UO)
  | no
/-- a call's end, nothing of the own heap within -/
inductive Rg where
  | ok (u : U)
  | ex (e : Exc)
  | no
structure Wd where
  Z : Addr → Prop
  r : List Addr
  h : List UO
  H : Hp
def Imm : HO → Prop
  | .tup _ => True
  | .frz _ _ => True
  | _ => False
structure Ext (w w' : Wd) : Prop where
  nw : ∃ nw, w'.r = w.r ++ nw ∧ ∀ a ∈ nw, w.H a = none
  zi : ∀ a, w'.Z a → w.Z a ∨ w.H a = none
  zs : ∀ a, w.Z a → w'.Z a
  keep : ∀ a o, w.H a = some o → (a ∉ w.r ∨ Imm o) → w'.H a = some o
  dom : ∀ a, w'.H a = none → w.H a = none
theorem Ext.refl (w : Wd) : Ext w w := ⟨⟨[], by simp, by simp⟩, fun _ h => .inl h, fun _ h => h, fun _ _ h _ => h, fun _ h => h⟩
theorem Ext.of_eq {w w' : Wd} (hZ : w'.Z = w.Z) (hr : w'.r = w.r) (hH : w'.H = w.H) : Ext w w' :=
  ⟨⟨[], by simp [hr], by simp⟩, fun a h => .inl (hZ ▸ h), fun a h => hZ ▸ h, fun a o h _ => by rw [hH]; exact h, fun a h => by rw [← hH]; exact h⟩
theorem Ext.trans {w w1 w2 : Wd} (a : Ext w w1) (b : Ext w1 w2) : Ext w w2 := by
  obtain ⟨n1, e1, f1⟩ := a.nw
  obtain ⟨n2, e2, f2⟩ := b.nw
  refine ⟨⟨n1 ++ n2, by rw [e2, e1, List.append_assoc], fun x hx => ?_⟩, fun x hx => ?_, fun x hx => b.zs x (a.zs x hx), fun x o h hi => ?_, fun x h => a.dom x (b.dom x h)⟩
  · rcases List.mem_append.mp hx with h | h
    · exact f1 x h
    · exact a.dom x (f2 x h)
  · rcases b.zi x hx with h | h
    · exact a.zi x h
    · exact .inr (a.dom x h)
  · refine b.keep x o (a.keep x o h hi) ?_
    rcases hi with hi | hi
    · refine .inl fun hm => ?_
      rw [e1] at hm
      rcases List.mem_append.mp hm with q | q
      · exact hi q
      · rw [f1 x q] at h; cases h
    · exact .inr hi
mutual
inductive R (G : Cfg) (w : Wd) : U → V → Prop
  | non : R G w .non .non
  | bl (b : Bool) : R G w (.bl b) (.bl b)
  | int (i : Int) : R G w (.int i) (.int i)
  | str (x : Str) : R G w (.str x) (.str x)
  | ty (n : String) : R G w (.ty n) (.ty n)
  | tup {a : Addr} {us : List U} {vs : List V} : TH G w.H a vs → RL G w us vs → R G w (.tup us) (.ref a)
  | tx {a : Addr} {o : Obj} {us : List U} {vs : List V} : w.H a = some (.frz o (.tup vs)) → o.dict = none → RL G w us vs → R G w (.tx us) (.ref a)
  | fl {a : Addr} {us : List U} {vs : List V} : w.H a = some (.lst vs) → ¬ w.Z a → RL G w us vs → R G w (.fl us) (.ref a)
  | scr {a : Addr} {xs : List Int} : ((∃ o, w.H a = some (.frz o (.lst (xs.map V.int)))) ∨ ((∀ H : Hp, SqL G.K H a (xs.map V.int)))) → R G w (.scr xs) (.ref a)
  | ob {a dx : Addr} {c : Nat} {us : List U} {vs : List V} : w.H a = some (.ins (G.cl c) dx ((G.ly c).zip vs)) → ¬ w.Z a → vs.length = (G.ly c).length → RL G w us vs → R G w (.ob c us) (.ref a)
  | ref {i : Nat} {a : Addr} : w.r[i]? = some a → R G w (.ref i) (.ref a)
inductive RL (G : Cfg) (w : Wd) : List U → List V → Prop
  | nil : RL G w [] []
  | cons {u : U} {v : V} {us : List U} {vs : List V} : R G w u v → RL G w us vs → RL G w (u :: us) (v :: vs)
end
section
variable {G : Cfg} {w w' : Wd}
theorem Ext.get (e : Ext w w') {i : Nat} {a : Addr} (h : w.r[i]? = some a) : w'.r[i]? = some a := by
  obtain ⟨nw, e1, _⟩ := e.nw
  rw [e1, List.getElem?_append_left (List.getElem?_eq_some_iff.mp h).1]
  exact h
theorem Ext.sqT (e : Ext w w') {a : Addr} {vs : List V} (h : SqT G.K w.H a vs) : SqT G.K w'.H a vs := by
  rcases h with (h | ⟨o, h⟩) | h
  · exact .inl (.inl (e.keep a _ h (.inr trivial)))
  · exact .inl (.inr ⟨o, e.keep a _ h (.inr trivial)⟩)
  · exact .inr h
theorem Ext.th (e : Ext w w') {a : Addr} {vs : List V} (h : TH G w.H a vs) : TH G w'.H a vs := ⟨e.sqT h.1, h.2.imp id fun q => e.keep a _ q (.inr trivial)⟩
theorem Ext.nz (e : Ext w w') {a : Addr} {o : HO} (h : w.H a = some o) (n : ¬ w.Z a) : ¬ w'.Z a := fun z => by
  rcases e.zi a z with q | q
  · exact n q
  · rw [q] at h; cases h
/-- less is forbidden -/
structure Les (w w' : Wd) : Prop where
  z : ∀ a, w'.Z a → w.Z a
  r : ∀ (i : Nat) (a : Addr), w.r[i]? = some a → w'.r[i]? = some a
  H : w'.H = w.H
mutual
theorem R.les (e : Les w w') : ∀ {u : U} {v : V}, R G w u v → R G w' u v
  | _, _, .non => .non
  | _, _, .bl b => .bl b
  | _, _, .int b => .int b
  | _, _, .str b => .str b
  | _, _, .ty b => .ty b
  | _, _, .tup h l => .tup (e.H ▸ h) (RL.les e l)
  | _, _, .tx h d l => .tx (e.H ▸ h) d (RL.les e l)
  | _, _, .fl h n l => .fl (e.H ▸ h) (fun z => n (e.z _ z)) (RL.les e l)
  | _, _, .scr h => .scr (e.H ▸ h)
  | _, _, .ob h n hl l => .ob (e.H ▸ h) (fun z => n (e.z _ z)) hl (RL.les e l)
  | _, _, .ref h => .ref (e.r _ _ h)
theorem RL.les (e : Les w w') : ∀ {us : List U} {vs : List V}, RL G w us vs → RL G w' us vs
  | _, _, .nil => .nil
  | _, _, .cons h t => .cons (R.les e h) (RL.les e t)
end
mutual
theorem R.mono (e : Ext w w') (hz : ∀ a ∈ w.r, w.Z a) : ∀ {u : U} {v : V}, R G w u v → R G w' u v
  | _, _, .non => .non
  | _, _, .bl b => .bl b
  | _, _, .int b => .int b
  | _, _, .str b => .str b
  | _, _, .ty b => .ty b
  | _, _, .tup h l => .tup (e.th h) (RL.mono e hz l)
  | _, _, .tx h d l => .tx (e.keep _ _ h (.inr trivial)) d (RL.mono e hz l)
  | _, _, .fl h n l => .fl (e.keep _ _ h (.inl fun m => n (hz _ m))) (e.nz h n) (RL.mono e hz l)
  | _, _, .scr h => .scr (h.elim (fun ⟨o, q⟩ => .inl ⟨o, e.keep _ _ q (.inr trivial)⟩) .inr)
  | _, _, .ob h n hl l => .ob (e.keep _ _ h (.inl fun m => n (hz _ m))) (e.nz h n) hl (RL.mono e hz l)
  | _, _, .ref h => .ref (e.get h)
theorem RL.mono (e : Ext w w') (hz : ∀ a ∈ w.r, w.Z a) : ∀ {us : List U} {vs : List V}, RL G w us vs → RL G w' us vs
  | _, _, .nil => .nil
  | _, _, .cons h t => .cons (R.mono e hz h) (RL.mono e hz t)
end
/-- what a related value leans on -/
structure Mon (G : Cfg) (w w' : Wd) : Prop where
  tup : ∀ (a : Addr) (vs : List V), TH G w.H a vs → TH G w'.H a vs
  fl : ∀ (a : Addr) (vs : List V), w.H a = some (.lst vs) → ¬ w.Z a → w'.H a = some (.lst vs) ∧ ¬ w'.Z a
  scr : ∀ (a : Addr) (o : Obj) (u : HO), w.H a = some (.frz o u) → w'.H a = some (.frz o u)
  ob : ∀ (a C dx : Addr) (fs : List (Str × V)), w.H a = some (.ins C dx fs) → ¬ w.Z a → w'.H a = some (.ins C dx fs) ∧ ¬ w'.Z a
  r : ∀ (i : Nat) (a : Addr), w.r[i]? = some a → w'.r[i]? = some a
mutual
theorem R.mon (e : Mon G w w') : ∀ {u : U} {v : V}, R G w u v → R G w' u v
  | _, _, .non => .non
  | _, _, .bl b => .bl b
  | _, _, .int b => .int b
  | _, _, .str b => .str b
  | _, _, .ty b => .ty b
  | _, _, .tup h l => .tup (e.tup _ _ h) (RL.mon e l)
  | _, _, .tx h d l => .tx (e.scr _ _ _ h) d (RL.mon e l)
  | _, _, .fl h n l => .fl (e.fl _ _ h n).1 (e.fl _ _ h n).2 (RL.mon e l)
  | _, _, .scr h => .scr (h.elim (fun ⟨o, q⟩ => .inl ⟨o, e.scr _ _ _ q⟩) .inr)
  | _, _, .ob h n hl l => .ob (e.ob _ _ _ _ h n).1 (e.ob _ _ _ _ h n).2 hl (RL.mon e l)
  | _, _, .ref h => .ref (e.r _ _ h)
theorem RL.mon (e : Mon G w w') : ∀ {us : List U} {vs : List V}, RL G w us vs → RL G w' us vs
  | _, _, .nil => .nil
  | _, _, .cons h t => .cons (R.mon e h) (RL.mon e t)
end
end
/-- the own object o stands at a -/
inductive RO (G : Cfg) (w : Wd) (a : Addr) : UO → Prop
  | lst {us : List U} {vs : List V} : w.H a = some (.lst vs) → RL G w us vs → RO G w a (.lst us)
  | dk {us : List (Key × U)} {vs : List V} : w.H a = some (.dK ((us.map (·.1)).zip vs)) → RL G w (us.map (·.2)) vs → RO G w a (.dk us)
  | dt {us : List (List Key × U)} {vs : List V} : w.H a = some (.dT ((us.map (·.1)).zip vs)) → RL G w (us.map (·.2)) vs → RO G w a (.dt us)
  | ins {c : Nat} {dx : Addr} {us : List U} {vs : List V} : w.H a = some (.ins (G.cl c) dx ((G.ly c).zip vs)) → vs.length ≤ (G.ly c).length → RL G w us vs → RO G w a (.ins c us)
structure Sm (G : Cfg) (w : Wd) : Prop where
  len : w.r.length = w.h.length
  nd : w.r.Nodup
  z : ∀ a ∈ w.r, w.Z a
  dom : ∀ a, w.Z a → w.H a ≠ none
  obj : ∀ (i : Nat) (a : Addr) (o : UO), w.r[i]? = some a → w.h[i]? = some o → RO G w a o
section
variable {G : Cfg} {w w' : Wd}
theorem R.up (m : Sm G w) (e : Ext w w') {u : U} {v : V} (h : R G w u v) : R G w' u v := R.mono e m.z h
theorem RL.up (m : Sm G w) (e : Ext w w') {u : List U} {v : List V} (h : RL G w u v) : RL G w' u v := RL.mono e m.z h
theorem RL.length : ∀ {us : List U} {vs : List V}, RL G w us vs → us.length = vs.length
  | _, _, .nil => rfl
  | _, _, .cons _ t => by simp [RL.length t]
theorem RL.get : ∀ {us : List U} {vs : List V} {i : Nat} {u : U}, RL G w us vs → us[i]? = some u → ∃ v, vs[i]? = some v ∧ R G w u v
  | _, _, _, _, .nil, e => by simp at e
  | _, _, 0, _, .cons r _, e => by simp at e; subst e; exact ⟨_, rfl, r⟩
  | _, _, i + 1, x, .cons _ t, e => by
    obtain ⟨u, h1, h2⟩ := RL.get (i := i) (u := x) t (by simpa using e)
    exact ⟨u, by simpa using h1, h2⟩
theorem RL.getV : ∀ {us : List U} {vs : List V} {i : Nat} {v : V}, RL G w us vs → vs[i]? = some v → ∃ u, us[i]? = some u ∧ R G w u v
  | _, _, _, _, .nil, e => by simp at e
  | _, _, 0, _, .cons r _, e => by simp at e; subst e; exact ⟨_, rfl, r⟩
  | _, _, i + 1, x, .cons _ t, e => by
    obtain ⟨u, h1, h2⟩ := RL.getV (i := i) (v := x) t (by simpa using e)
    exact ⟨u, by simpa using h1, h2⟩
theorem RL.append : ∀ {us : List U} {vs : List V} {us2 : List U} {vs2 : List V}, RL G w us vs → RL G w us2 vs2 → RL G w (us ++ us2) (vs ++ vs2)
  | _, _, _, _, .nil, s => s
  | _, _, _, _, .cons r t, s => .cons r (RL.append t s)
theorem RL.one {u : U} {v : V} (h : R G w u v) : RL G w [u] [v] := .cons h .nil
theorem RL.set {u : U} {v : V} (h : R G w u v) : ∀ {us : List U} {vs : List V} (i : Nat), RL G w us vs → RL G w (us.set i u) (vs.set i v)
  | _, _, _, .nil => .nil
  | _, _, 0, .cons _ t => .cons h t
  | _, _, i + 1, .cons r t => .cons r (RL.set h i t)
theorem RL.take : ∀ {us : List U} {vs : List V} (n : Nat), RL G w us vs → RL G w (us.take n) (vs.take n)
  | _, _, 0, _ => .nil
  | _, _, _ + 1, .nil => .nil
  | _, _, n + 1, .cons r t => .cons r (RL.take n t)
theorem RL.drop : ∀ {us : List U} {vs : List V} (n : Nat), RL G w us vs → RL G w (us.drop n) (vs.drop n)
  | _, _, 0, r => r
  | _, _, _ + 1, .nil => .nil
  | _, _, n + 1, .cons _ t => RL.drop n t
theorem RL.reverse : ∀ {us : List U} {vs : List V}, RL G w us vs → RL G w us.reverse vs.reverse
  | _, _, .nil => .nil
  | _, _, .cons r t => by
    rw [List.reverse_cons, List.reverse_cons]
    exact RL.append (RL.reverse t) (.one r)
theorem RL.eraseIdx : ∀ {us : List U} {vs : List V} (i : Nat), RL G w us vs → RL G w (us.eraseIdx i) (vs.eraseIdx i)
  | _, _, _, .nil => .nil
  | _, _, 0, .cons _ t => t
  | _, _, i + 1, .cons r t => .cons r (RL.eraseIdx i t)
theorem RL.dropLast {us : List U} {vs : List V} (h : RL G w us vs) : RL G w us.dropLast vs.dropLast := by
  rw [List.dropLast_eq_take, List.dropLast_eq_take, h.length]
  exact h.take _
theorem RL.rep {us : List U} {vs : List V} (h : RL G w us vs) : ∀ k : Nat, RL G w (List.replicate k us).flatten (List.replicate k vs).flatten
  | 0 => .nil
  | k + 1 => by
    rw [List.replicate_succ, List.replicate_succ, List.flatten_cons, List.flatten_cons]
    exact h.append (RL.rep h k)
theorem RL.ints : ∀ {xs : List Int}, RL G w (xs.map U.int) (xs.map V.int)
  | [] => .nil
  | x :: r => .cons (.int x) RL.ints
theorem RO.up (m : Sm G w) (e : Ext w w') {a : Addr} {o : UO} (hk : ∀ b, w.H a = some b → w'.H a = some b) (h : RO G w a o) : RO G w' a o := by
  cases h with
  | lst h l => exact .lst (hk _ h) (l.up m e)
  | dk h l => exact .dk (hk _ h) (l.up m e)
  | dt h l => exact .dt (hk _ h) (l.up m e)
  | ins h hl l => exact .ins (hk _ h) hl (l.up m e)
end
/-- the slots -/
def SL (G : Cfg) (w : Wd) (us : Lo) (σ : L2.St) : Prop := us.length = σ.length ∧ ∀ (i : Nat) (u : U), us[i]? = some (some u) → ∃ v, σ[i]? = some (some v) ∧ R G w u v
section
variable {G : Cfg} {w w' : Wd} {us : Lo} {σ : L2.St}
theorem SL.up (m : Sm G w) (e : Ext w w') (h : SL G w us σ) : SL G w' us σ := ⟨h.1, fun i u q => let ⟨v, a, b⟩ := h.2 i u q; ⟨v, a, b.up m e⟩⟩
theorem SL.set (h : SL G w us σ) {u : U} {v : V} (r : R G w u v) (i : Nat) : SL G w (us.set i (some u)) (σ.set i (some v)) := by
  refine ⟨by simp [h.1], fun j x q => ?_⟩
  by_cases hj : i = j
  · subst hj
    by_cases hl : i < us.length
    · rw [List.getElem?_set_self hl] at q
      cases q
      exact ⟨v, List.getElem?_set_self (by rw [← h.1]; exact hl), r⟩
    · rw [List.getElem?_eq_none (by simpa using hl)] at q; cases q
  · rw [List.getElem?_set_ne hj] at q
    obtain ⟨y, a, b⟩ := h.2 j x q
    exact ⟨y, by rw [List.getElem?_set_ne hj]; exact a, b⟩
theorem SL.unset (h : SL G w us σ) (i : Nat) : SL G w (us.set i none) (σ.set i none) := by
  refine ⟨by simp [h.1], fun j x q => ?_⟩
  by_cases hj : i = j
  · subst hj
    by_cases hl : i < us.length
    · rw [List.getElem?_set_self hl] at q; cases q
    · rw [List.getElem?_eq_none (by simpa using hl)] at q; cases q
  · rw [List.getElem?_set_ne hj] at q
    obtain ⟨y, a, b⟩ := h.2 j x q
    exact ⟨y, by rw [List.getElem?_set_ne hj]; exact a, b⟩
def wipeU (us : Lo) : List Nat → Lo
  | [] => us
  | v :: vs => (wipeU us vs).set v none
theorem SL.wipe (h : SL G w us σ) : ∀ vs : List Nat, SL G w (wipeU us vs) (L2.wipe σ vs)
  | [] => h
  | v :: vs => by
    show SL G w ((wipeU us vs).set v none) ((L2.wipe σ vs).set v none)
    exact (SL.wipe h vs).unset v
end
/-- an exception's class and attributes -/
def RX (G : Cfg) (w : Wd) (e : Exc) (cls : Value) (d : Option Addr) : Prop :=
  cls = .ref (G.cl e.c) ∧ match e.fs with
    | [] => d = none
    | fs => ∃ dd vs, d = some dd ∧ w.H dd = some (.xd ((G.ly e.c).zip vs)) ∧ ¬ w.Z dd ∧ RL G w fs vs
theorem RX.up {G : Cfg} {w w' : Wd} (m : Sm G w) (e : Ext w w') {x : Exc} {cls : Value} {d : Option Addr} (h : RX G w x cls d) : RX G w' x cls d := by
  obtain ⟨c, fs⟩ := x
  obtain ⟨h1, h2⟩ := h
  refine ⟨h1, ?_⟩
  cases fs with
  | nil => exact h2
  | cons f r =>
    obtain ⟨dd, vs, a, b, c, l⟩ := h2
    exact ⟨dd, vs, a, e.keep _ _ b (.inl fun q => c (m.z _ q)), e.nz b c, l.up m e⟩
/-! ### what is wanted behind an evaluator -/
def Pt {α β : Type} (G : Cfg) (Rel : Wd → α → β → Prop) (W : WX) (σ : L2.St) (w : Wd) (r : Rs α) (Q : β → Hp → Prop) : Prop :=
  match r with
  | .ok a h => ∀ (w' : Wd) (b : β), w'.h = h → Ext w w' → Sm G w' → Rel w' a b → Q b w'.H
  | .ex e h => ∀ (w' : Wd) (cls : Value) (d : Option Addr), w'.h = h → Ext w w' → Sm G w' → RX G w' e cls d → W cls d σ w'.H
  | .no => False
def tX {α β : Type} (G : Cfg) (Rel : Wd → α → β → Prop) (f : Lo → List UO → Rs α) (W : WX) : L2.St → Hp → (β → Hp → Prop) → Prop := fun σ H Q =>
  ∃ us w, w.H = H ∧ Sm G w ∧ SL G w us σ ∧ Pt G Rel W σ w (f us w.h) Q
abbrev Ev := Lo → List UO → Rs U
abbrev tE (G : Cfg) (f : Ev) (W : WX) : TE := tX G (R G) f W
abbrev EvB := Lo → List UO → Rs Bool
abbrev tT (G : Cfg) (f : EvB) (W : WX) : TT := tX G (fun _ (a b : Bool) => a = b) f W
abbrev EvA := Lo → List UO → Rs (List U)
abbrev tA (G : Cfg) (f : EvA) (W : WX) : TA := tX G (RL G) f W
abbrev EvO := Lo → List UO → Rs (Option Int)
abbrev tO (G : Cfg) (f : EvO) (W : WX) : TO := tX G (fun _ (a b : Option Int) => a = b) f W
def Rs.bind {α β : Type} (r : Rs α) (k : α → List UO → Rs β) : Rs β :=
  match r with
  | .ok a h => k a h
  | .ex e h => .ex e h
  | .no => .no
section
variable {α β γ δ : Type} {G : Cfg} {Rel : Wd → α → β → Prop} {Rel' : Wd → γ → δ → Prop} {W : WX} {σ : L2.St} {w w1 : Wd}
theorem Pt.weak {r : Rs α} {Q : β → Hp → Prop} (e : Ext w w1) (h : Pt G Rel W σ w r Q) : Pt G Rel W σ w1 r Q := by
  cases r with
  | ok a hh => exact fun w' b e1 e2 => h w' b e1 (e.trans e2)
  | ex x hh => exact fun w' c d e1 e2 => h w' c d e1 (e.trans e2)
  | no => exact h
theorem Pt.bind {r : Rs α} {k : α → List UO → Rs γ} {Q : δ → Hp → Prop} (h : Pt G Rel' W σ w (r.bind k) Q) :
    Pt G Rel W σ w r fun b H1 => ∃ w1 a, w1.H = H1 ∧ Ext w w1 ∧ Sm G w1 ∧ Rel w1 a b ∧ Pt G Rel' W σ w1 (k a w1.h) Q := by
  cases r with
  | ok a hh =>
    intro w' b e1 e2 m rl
    subst e1
    exact ⟨w', a, rfl, e2, m, rl, Pt.weak e2 h⟩
  | ex x hh => exact h
  | no => exact h
theorem Pt.imp {r : Rs α} {Q Q' : β → Hp → Prop} (h : Pt G Rel W σ w r Q) (hq : ∀ b H, Q b H → Q' b H) : Pt G Rel W σ w r Q' := by
  cases r with
  | ok a hh => exact fun w' b e1 e2 m rl => hq _ _ (h w' b e1 e2 m rl)
  | ex x hh => exact h
  | no => exact h
theorem Pt.fin {a : α} {hh : List UO} {Q : β → Hp → Prop} (h : Pt G Rel W σ w (.ok a hh) Q) (w' : Wd) (b : β) (e : w'.h = hh) (x : Ext w w') (m : Sm G w') (r : Rel w' a b) : Q b w'.H := h w' b e x m r
/-- nothing changes -/
theorem Pt.here {a : α} {Q : β → Hp → Prop} (h : Pt G Rel W σ w (.ok a w.h) Q) (m : Sm G w) {b : β} (r : Rel w a b) : Q b w.H := h w b rfl (Ext.refl w) m r
end
theorem PE.imp {X : Cx} {e : Expr} {t t' : TE} (h : PE X e t) (i : ∀ σ H Q, t' σ H Q → t σ H Q) : PE X e t' := ⟨fun pins s σ H Q I q => h.run pins s σ H Q I (i σ H Q q)⟩
theorem PT.imp {X : Cx} {e : Expr} {t t' : TT} (h : PT X e t) (i : ∀ σ H Q, t' σ H Q → t σ H Q) : PT X e t' := ⟨fun pins s σ H Q I q => h.run pins s σ H Q I (i σ H Q q)⟩
theorem PA.imp {X : Cx} {e : List Expr} {t t' : TA} (h : PA X e t) (i : ∀ σ H Q, t' σ H Q → t σ H Q) : PA X e t' := ⟨fun pos pins s σ H Q I q => h.run pos pins s σ H Q I (i σ H Q q)⟩
theorem PO.imp {X : Cx} {e : Option Expr} {t t' : TO} (h : PO X e t) (i : ∀ σ H Q, t' σ H Q → t σ H Q) : PO X e t' := by
  constructor
  intro pins s σ H Q I q
  exact h.run pins s σ H Q I (i σ H _ q)
theorem PS.imp {X : Cx} {e : Stmt} {t t' : TS} (h : PS X e t) (i : ∀ D σ H, t' D σ H → t D σ H) : PS X e t' := ⟨fun pins s σ H D I q => h.run pins s σ H D I (i D σ H q)⟩
theorem PSs.imp {X : Cx} {e : List Stmt} {t t' : TS} (h : PSs X e t) (i : ∀ D σ H, t' D σ H → t D σ H) : PSs X e t' := ⟨fun pins s σ H D I q => h.run pins s σ H D I (i D σ H q)⟩
theorem PG.imp {X : Cx} {e : Expr} {t t' : TG} (h : PG X e t) (i : ∀ v σ H Q, t' v σ H Q → t v σ H Q) : PG X e t' := ⟨fun pins s σ H v u Q I r q => h.run pins s σ H v u Q I r (i v σ H Q q)⟩
theorem PI.imp {X : Cx} {tg e : Expr} {t t' : TI} (h : PI X tg e t) (i : ∀ σ H Q, t' σ H Q → t σ H Q) : PI X tg e t' := ⟨fun pins s σ H Q I q => h.run pins s σ H Q I (i σ H Q q)⟩
theorem PTs.imp {X : Cx} {e : List Expr} {t t' : TT} (h : PTs X e t) (i : ∀ σ H Q, t' σ H Q → t σ H Q) : PTs X e t' := ⟨fun pins s σ H Q I q => h.run pins s σ H Q I (i σ H Q q)⟩
end Fn
namespace Fn
open PySem L2
/-! ### steps of the world -/
def Wd.new (w : Wd) (p : Addr) (o : HO) : Wd := { w with H := upd w.H p o }
def Wd.newZ (w : Wd) (p : Addr) (o : HO) : Wd := { w with Z := fun a => w.Z a ∨ a = p, H := upd w.H p o }
def Wd.put (w : Wd) (i : Nat) (a : Addr) (o : UO) (ho : HO) : Wd := { w with h := w.h.set i o, H := upd w.H a ho }
section
variable {G : Cfg} {w : Wd} {p a : Addr} {o : HO} {i : Nat}
theorem Ext.new (hp : w.H p = none) : Ext w (w.new p o) :=
  ⟨⟨[], by simp [Wd.new], by simp⟩, fun _ h => .inl h, fun _ h => h, fun b x h _ => by
    show upd w.H p o b = _
    rw [upd_ne (ne_of_none h hp)]; exact h, fun b h => by
    have h : upd w.H p o b = none := h
    by_cases e : b = p
    · subst e; rw [upd_same] at h; cases h
    · rwa [upd_ne e] at h⟩
theorem Ext.newZ (hp : w.H p = none) : Ext w (w.newZ p o) :=
  ⟨⟨[], by simp [Wd.newZ], by simp⟩, fun b h => h.elim .inl fun e => .inr (e ▸ hp), fun _ h => .inl h, fun b x h _ => by
    show upd w.H p o b = _
    rw [upd_ne (ne_of_none h hp)]; exact h, fun b h => by
    have h : upd w.H p o b = none := h
    by_cases e : b = p
    · subst e; rw [upd_same] at h; cases h
    · rwa [upd_ne e] at h⟩
theorem Sm.new (m : Sm G w) (hp : w.H p = none) : Sm G (w.new p o) :=
  ⟨m.len, m.nd, m.z, fun b h => by
    show upd w.H p o b ≠ none
    by_cases e : b = p
    · subst e; rw [upd_same]; simp
    · rw [upd_ne e]; exact m.dom b h, fun i b x h1 h2 => (m.obj i b x h1 h2).up m (Ext.new hp) fun y q => by
    show upd w.H p o b = _
    rw [upd_ne (ne_of_none q hp)]; exact q⟩
theorem Sm.newZ (m : Sm G w) (hp : w.H p = none) : Sm G (w.newZ p o) :=
  ⟨m.len, m.nd, fun b h => .inl (m.z b h), fun b h => by
    show upd w.H p o b ≠ none
    by_cases e : b = p
    · subst e; rw [upd_same]; simp
    · rw [upd_ne e]; exact m.dom b (h.resolve_right e), fun i b x h1 h2 => (m.obj i b x h1 h2).up m (Ext.newZ hp) fun y q => by
    show upd w.H p o b = _
    rw [upd_ne (ne_of_none q hp)]; exact q⟩
theorem Sm.free_r (m : Sm G w) (hp : w.H p = none) : p ∉ w.r := fun h => m.dom p (m.z p h) hp
theorem Sm.free_z (m : Sm G w) (hp : w.H p = none) : ¬ w.Z p := fun h => m.dom p h hp
/-- a tracked object is changed -/
theorem RO.notImm {x : UO} (h : RO G w a x) : ∃ o, w.H a = some o ∧ ¬ Imm o := by
  cases h with
  | lst h _ => exact ⟨_, h, fun z => z⟩
  | dk h _ => exact ⟨_, h, fun z => z⟩
  | dt h _ => exact ⟨_, h, fun z => z⟩
  | ins h _ _ => exact ⟨_, h, fun z => z⟩
theorem Ext.put {x x' : UO} {ho : HO} (m : Sm G w) (hr : w.r[i]? = some a) (hx : w.h[i]? = some x) : Ext w (w.put i a x' ho) := by
  obtain ⟨o, ho1, ho2⟩ := (m.obj i a x hr hx).notImm
  have ha : a ∈ w.r := List.mem_of_getElem? hr
  refine ⟨⟨[], by simp [Wd.put], by simp⟩, fun _ h => .inl h, fun _ h => h, fun b y h hi => ?_, fun b h => ?_⟩
  · show upd w.H a ho b = _
    have : b ≠ a := by
      rintro rfl
      rcases hi with q | q
      · exact q ha
      · rw [ho1] at h; cases h; exact ho2 q
    rw [upd_ne this]; exact h
  · have h : upd w.H a ho b = none := h
    by_cases e : b = a
    · subst e; rw [upd_same] at h; cases h
    · rwa [upd_ne e] at h
theorem Sm.put {x x' : UO} {ho : HO} (m : Sm G w) (hr : w.r[i]? = some a) (hx : w.h[i]? = some x) (new : RO G (w.put i a x' ho) a x') : Sm G (w.put i a x' ho) := by
  have e := Ext.put (x' := x') (ho := ho) m hr hx
  refine ⟨by simp [Wd.put, m.len], m.nd, m.z, fun b h => ?_, fun j b y h1 h2 => ?_⟩
  · show upd w.H a ho b ≠ none
    by_cases q : b = a
    · subst q; rw [upd_same]; simp
    · rw [upd_ne q]; exact m.dom b h
  · have h1 : w.r[j]? = some b := h1
    have h2 : (w.h.set i x')[j]? = some y := h2
    by_cases hj : i = j
    · subst hj
      rw [hr] at h1; cases h1
      rw [List.getElem?_set_self (List.getElem?_eq_some_iff.mp hx).1] at h2
      cases h2
      exact new
    · rw [List.getElem?_set_ne hj] at h2
      refine (m.obj j b y h1 h2).up m e fun z q => ?_
      have : b ≠ a := by
        rintro rfl
        obtain ⟨l1, e1⟩ := List.getElem?_eq_some_iff.mp h1
        obtain ⟨l2, e2⟩ := List.getElem?_eq_some_iff.mp hr
        exact hj ((List.getElem_inj m.nd).mp (e2.trans e1.symm))
      show upd w.H a ho b = _
      rw [upd_ne this]; exact q
end
/-! ### new lists -/
def PtN (G : Cfg) (W : WX) (σ : L2.St) (w : Wd) (r : Rs (List U)) (Q : VK) : Prop :=
  match r with
  | .ok xs h => ∀ (w' : Wd) (p : Addr) (vs : List V), w'.h = h → Ext w w' → Sm G w' → RL G w' xs vs → w'.H p = some (.lst vs) → w.H p = none → w'.Z p → p ∉ w'.r → Q (.ref p) w'.H
  | .ex e h => ∀ (w' : Wd) (cls : Value) (d : Option Addr), w'.h = h → Ext w w' → Sm G w' → RX G w' e cls d → W cls d σ w'.H
  | .no => False
abbrev EvL := Lo → List UO → Rs (List U)
def tN (G : Cfg) (f : EvL) (W : WX) : TE := fun σ H Q => ∃ us w, w.H = H ∧ Sm G w ∧ SL G w us σ ∧ PtN G W σ w (f us w.h) Q
def eF (f : EvL) : Ev := fun us h => (f us h).bind fun xs h1 => .ok (.fl xs) h1
def eT (f : EvL) : Ev := fun us h => (f us h).bind fun xs h1 => .ok (.ref h1.length) (h1 ++ [.lst xs])
section
variable {G : Cfg} {w w' : Wd} {W : WX} {σ : L2.St}
/-- the new list is nobody's: it is read alone from here on -/
theorem toFrozen {xs : List U} {p : Addr} {vs : List V} (m0 : Sm G w) (e : Ext w w') (m : Sm G w') (l : RL G w' xs vs) (hp : w'.H p = some (.lst vs)) (hn : w.H p = none) (hr : p ∉ w'.r) :
    ∃ w'' : Wd, w''.h = w'.h ∧ w''.H = w'.H ∧ Ext w w'' ∧ Sm G w'' ∧ R G w'' (.fl xs) (.ref p) := by
  have hle : Les w' { w' with Z := fun a => w'.Z a ∧ a ≠ p } := ⟨fun a h => h.1, fun _ _ h => h, rfl⟩
  refine ⟨{ w' with Z := fun a => w'.Z a ∧ a ≠ p }, rfl, rfl, ⟨e.nw, fun a h => e.zi a h.1, fun a h => ⟨e.zs a h, fun z => m0.free_z hn (z ▸ h)⟩, e.keep, e.dom⟩, ⟨m.len, m.nd, fun a h => ⟨m.z a h, fun z => hr (z ▸ h)⟩, fun a h => m.dom a h.1, fun i a o h1 h2 => ?_⟩, .fl hp (fun z => z.2 rfl) (l.les hle)⟩
  cases m.obj i a o h1 h2 with
  | lst h l => exact .lst h (l.les hle)
  | dk h l => exact .dk h (l.les hle)
  | dt h l => exact .dt h (l.les hle)
  | ins h hl l => exact .ins h hl (l.les hle)
/-- it is tracked from here on -/
theorem toTracked {xs : List U} {p : Addr} {vs : List V} (e : Ext w w') (m : Sm G w') (l : RL G w' xs vs) (hp : w'.H p = some (.lst vs)) (hn : w.H p = none) (hz : w'.Z p) (hr : p ∉ w'.r) :
    ∃ w'' : Wd, w''.h = w'.h ++ [.lst xs] ∧ w''.H = w'.H ∧ Ext w w'' ∧ Sm G w'' ∧ R G w'' (.ref w'.h.length) (.ref p) := by
  have hle : Les w' { w' with r := w'.r ++ [p], h := w'.h ++ [.lst xs] } := ⟨fun a h => h, fun i a h => by
    show (w'.r ++ [p])[i]? = some a
    rw [List.getElem?_append_left (List.getElem?_eq_some_iff.mp h).1]; exact h, rfl⟩
  refine ⟨{ w' with r := w'.r ++ [p], h := w'.h ++ [.lst xs] }, rfl, rfl, ⟨?_, e.zi, e.zs, e.keep, e.dom⟩, ⟨by simp [m.len], ?_, fun a h => ?_, m.dom, fun i a o h1 h2 => ?_⟩, .ref ?_⟩
  · obtain ⟨nw, e1, e2⟩ := e.nw
    refine ⟨nw ++ [p], by show w'.r ++ [p] = _; rw [e1, List.append_assoc], fun a ha => ?_⟩
    rcases List.mem_append.mp ha with q | q
    · exact e2 a q
    · rw [List.mem_singleton.mp q]; exact hn
  · show (w'.r ++ [p]).Nodup
    rw [List.nodup_append]
    exact ⟨m.nd, by simp, fun a ha b hb => by rw [List.mem_singleton.mp hb]; exact fun z => hr (z ▸ ha)⟩
  · rcases List.mem_append.mp (show a ∈ w'.r ++ [p] from h) with q | q
    · exact m.z a q
    · rw [List.mem_singleton.mp q]; exact hz
  · have h1 : (w'.r ++ [p])[i]? = some a := h1
    have h2 : (w'.h ++ [UO.lst xs])[i]? = some o := h2
    by_cases hi : i < w'.h.length
    · rw [List.getElem?_append_left (by rw [m.len]; exact hi)] at h1
      rw [List.getElem?_append_left hi] at h2
      cases m.obj i a o h1 h2 with
      | lst h l => exact .lst h (l.les hle)
      | dk h l => exact .dk h (l.les hle)
      | dt h l => exact .dt h (l.les hle)
      | ins h hl l => exact .ins h hl (l.les hle)
    · have hi2 : i = w'.h.length := by
        have := (List.getElem?_eq_some_iff.mp h2).1
        simp at this
        omega
      subst hi2
      rw [List.getElem?_append_right (by rw [m.len]; exact Nat.le_refl _), m.len, Nat.sub_self] at h1
      rw [List.getElem?_append_right (Nat.le_refl _), Nat.sub_self] at h2
      cases h1
      cases h2
      exact .lst hp (l.les hle)
  · show (w'.r ++ [p])[w'.h.length]? = some p
    rw [List.getElem?_append_right (by rw [m.len]; exact Nat.le_refl _), m.len, Nat.sub_self]
    rfl
theorem tN_eF {f : EvL} {H : Hp} {Q : VK} (h : tE G (eF f) W σ H Q) : tN G f W σ H Q := by
  obtain ⟨us, w, rfl, m, sl, h⟩ := h
  refine ⟨us, w, rfl, m, sl, ?_⟩
  unfold eF at h
  cases e : f us w.h with
  | ok xs hh =>
    rw [e] at h
    intro w' p vs e1 e2 m' l hp hn hz hr
    obtain ⟨w'', a, b, c, d, r⟩ := toFrozen m e2 m' l hp hn hr
    rw [← b]
    exact h w'' _ (a.trans e1) c d r
  | ex x hh => rw [e] at h; exact h
  | no => rw [e] at h; exact h
theorem tN_eT {f : EvL} {H : Hp} {Q : VK} (h : tE G (eT f) W σ H Q) : tN G f W σ H Q := by
  obtain ⟨us, w, rfl, m, sl, h⟩ := h
  refine ⟨us, w, rfl, m, sl, ?_⟩
  unfold eT at h
  cases e : f us w.h with
  | ok xs hh =>
    rw [e] at h
    intro w' p vs e1 e2 m' l hp hn hz hr
    obtain ⟨w'', a, b, c, d, r⟩ := toTracked e2 m' l hp hn hz hr
    subst e1
    rw [← b]
    exact h w'' _ a c d r
  | ex x hh => rw [e] at h; exact h
  | no => rw [e] at h; exact h
theorem f_fz {X : Cx} {e : Expr} {f : EvL} (h : PE X e (tN G f W)) : PE X e (tE G (eF f) W) := PE.imp h fun _ _ _ => tN_eF
theorem f_tr {X : Cx} {e : Expr} {f : EvL} (h : PE X e (tN G f W)) : PE X e (tE G (eT f) W) := PE.imp h fun _ _ _ => tN_eT
/-- a list has just been laid -/
theorem newL {w w1 : Wd} {xs : List U} {vs : List V} {h : List UO} {Q : VK} (e : Ext w w1) (m : Sm G w1) (l : RL G w1 xs vs) (eh : w1.h = h) (q : PtN G W σ w (.ok xs h) Q) {p : Addr} (hp : w1.H p = none) : Q (.ref p) (upd w1.H p (.lst vs)) :=
  q (w1.newZ p (.lst vs)) p vs eh (e.trans (Ext.newZ hp)) (m.newZ hp) (l.up m (Ext.newZ hp)) upd_same (e.dom p hp) (.inr rfl) (m.free_r hp)
/-- a tuple has just been laid -/
theorem newT {w : Wd} {xs : List U} {vs : List V} {h : List UO} {Q : VK} (m : Sm G w) (l : RL G w xs vs) (eh : w.h = h) (q : Pt G (R G) W σ w (.ok (.tup xs) h) Q) {p : Addr} (hp : w.H p = none) : Q (.ref p) (upd w.H p (.tup vs)) :=
  q (w.new p (.tup vs)) (.ref p) eh (Ext.new hp) (m.new hp) (.tup (.new upd_same) (l.up m (Ext.new hp)))
end
/-! ### reading sequences -/
def szOk (n : Nat) : Bool := Nat.ble n 16777216
theorem szOk_le {n : Nat} (h : szOk n = true) : n ≤ sizeLine := by rw [sizeLine_eq]; exact Nat.le_of_ble_eq_true h
/-- lists but the script -/
def lstH (h : List UO) : U → Option (List U)
  | .fl xs => some xs
  | .ref i => match h[i]? with | some (.lst xs) => some xs | _ => none
  | _ => none
def lstU (h : List UO) : U → Option (List U)
  | .fl xs => some xs
  | .scr xs => some (xs.map U.int)
  | .ref i => match h[i]? with | some (.lst xs) => some xs | _ => none
  | _ => none
section
variable {G : Cfg} {w : Wd}
theorem lstH_of (m : Sm G w) {u : U} {v : V} {xs : List U} (r : R G w u v) (h : lstH w.h u = some xs) : ∃ a vs, v = .ref a ∧ w.H a = some (.lst vs) ∧ RL G w xs vs := by
  cases r with
  | fl h1 h2 l => cases h; exact ⟨_, _, rfl, h1, l⟩
  | @ref i a h1 =>
    have h : (match w.h[i]? with | some (.lst xs) => some xs | _ => none) = some xs := h
    split at h
    · rename_i ys q
      cases h
      cases m.obj _ _ _ h1 q with
      | lst h2 l => exact ⟨_, _, rfl, h2, l⟩
    · cases h
  | _ => cases h
theorem lstU_of (m : Sm G w) {u : U} {v : V} {xs : List U} (r : R G w u v) (h : lstU w.h u = some xs) : ∃ a vs, v = .ref a ∧ SqL G.K w.H a vs ∧ RL G w xs vs := by
  cases r with
  | fl h1 h2 l => cases h; exact ⟨_, _, rfl, .inl (.inl h1), l⟩
  | scr h1 =>
    cases h
    rcases h1 with ⟨o, h1⟩ | h1
    · exact ⟨_, _, rfl, .inl (.inr ⟨o, h1⟩), RL.ints⟩
    · exact ⟨_, _, rfl, h1 _, RL.ints⟩
  | @ref i a h1 =>
    have h : (match w.h[i]? with | some (.lst xs) => some xs | _ => none) = some xs := h
    split at h
    · rename_i ys q
      cases h
      cases m.obj _ _ _ h1 q with
      | lst h2 l => exact ⟨_, _, rfl, .inl (.inl h2), l⟩
    · cases h
  | _ => cases h
/-- a list or a tuple -/
def seqU (h : List UO) : U → Option (List U)
  | .tup xs => some xs
  | u => lstU h u
theorem seqU_of (m : Sm G w) {u : U} {v : V} {xs : List U} (r : R G w u v) (h : seqU w.h u = some xs) : ∃ a vs, v = .ref a ∧ (SqL G.K w.H a vs ∨ SqT G.K w.H a vs) ∧ RL G w xs vs := by
  cases r with
  | tup h1 l => cases h; exact ⟨_, _, rfl, .inr h1.1, l⟩
  | fl h1 h2 l => obtain ⟨a, vs, e, x, y⟩ := lstU_of m (.fl h1 h2 l) h; exact ⟨a, vs, e, .inl x, y⟩
  | scr h1 => obtain ⟨a, vs, e, x, y⟩ := lstU_of m (.scr h1) h; exact ⟨a, vs, e, .inl x, y⟩
  | ref h1 => obtain ⟨a, vs, e, x, y⟩ := lstU_of m (.ref h1) h; exact ⟨a, vs, e, .inl x, y⟩
  | _ => cases h
end
/-! ### the forms -/
def e1 (k : U → List UO → Rs U) (fa : Ev) : Ev := fun us h => (fa us h).bind k
def e2 (k : U → U → List UO → Rs U) (fa fb : Ev) : Ev := fun us h => (fa us h).bind fun a h1 => (fb us h1).bind fun b h2 => k a b h2
def Op1 (G : Cfg) (r : V → Hp → VK → Prop) (k : U → List UO → Rs U) : Prop := ∀ (w : Wd) (σ : L2.St) (W : WX) (x : U) (a : V) (Q : VK), Sm G w → R G w x a → Pt G (R G) W σ w (k x w.h) Q → r a w.H Q
def Op2 (G : Cfg) (r : R2) (k : U → U → List UO → Rs U) : Prop := ∀ (w : Wd) (σ : L2.St) (W : WX) (x y : U) (a b : V) (Q : VK), Sm G w → R G w x a → R G w y b → Pt G (R G) W σ w (k x y w.h) Q → r a b w.H Q
section
variable {G : Cfg} {W : WX} {σ : L2.St} {H : Hp} {Q : VK} {fa fb : Ev}
theorem one_of {r : V → Hp → VK → Prop} {k : U → List UO → Rs U} (hk : Op1 G r k) (h : tE G (e1 k fa) W σ H Q) : tE G fa W σ H fun x H1 => r x H1 Q := by
  obtain ⟨us, w, rfl, m, sl, h⟩ := h
  refine ⟨us, w, rfl, m, sl, (Pt.bind h).imp ?_⟩
  rintro x H1 ⟨w1, a, rfl, e1, m1, r1, h1⟩
  exact hk w1 σ W a x Q m1 r1 h1
theorem two_of {r : R2} {k : U → U → List UO → Rs U} (hk : Op2 G r k) (h : tE G (e2 k fa fb) W σ H Q) : tE G fa W σ H fun x H1 => tE G fb W σ H1 fun y H2 => r x y H2 Q := by
  obtain ⟨us, w, rfl, m, sl, h⟩ := h
  refine ⟨us, w, rfl, m, sl, (Pt.bind h).imp ?_⟩
  rintro x H1 ⟨w1, a, rfl, e1, m1, r1, h1⟩
  refine ⟨us, w1, rfl, m1, sl.up m e1, (Pt.bind h1).imp ?_⟩
  rintro y H2 ⟨w2, b, rfl, e2, m2, r2, h2⟩
  exact hk w2 σ W a b x y Q m2 (r1.up m1 e2) r2 h2
end
section
variable {X : Cx} {G : Cfg} {W : WX} {a b : Expr} {fa fb : Ev} {pos : Pos}
theorem f_op2 {op : Operator} {r : R2} {k : U → U → List UO → Rs U} (ho : OpR X (binaryOp op) r) (hk : Op2 G r k) (ha : PE X a (tE G fa W)) (hb : PE X b (tE G fb W)) : PE X (.BinOp a op b pos) (tE G (e2 k fa fb) W) :=
  PE.imp (pe_op ho ha hb) fun _ _ _ h => two_of hk h
theorem f_un {op : UnaryOp} {r : V → Hp → VK → Prop} {k : U → List UO → Rs U} (ho : UnR X (unaryOp op) r) (hk : Op1 G r k) (ha : PE X a (tE G fa W)) : PE X (.UnaryOp op a pos) (tE G (e1 k fa) W) :=
  PE.imp (pe_un ho ha) fun _ _ _ h => one_of hk h
theorem f_cmp {op : CmpOp} {r : R2} {k : U → U → List UO → Rs U} (ho : OpR X (compareOp op) r) (hk : Op2 G r k) (ha : PE X a (tE G fa W)) (hb : PE X b (tE G fb W)) (hm : behindInMarks op b = false) : PE X (.Compare a [op] [b] pos) (tE G (e2 k fa fb) W) :=
  PE.imp (pe_cmpR ho ha hb hm) fun _ _ _ h => two_of hk h
/-- a value that is a bool, as a test -/
def bE (f : Ev) : EvB := fun us h => (f us h).bind fun u h1 => match u with | .bl c => .ok c h1 | _ => .no
theorem bE_of {t : TE} {σ : L2.St} {H : Hp} {Q : Bool → Hp → Prop} {f : Ev} (ht : ∀ Q', tE G f W σ H Q' → t σ H Q') (h : tT G (bE f) W σ H Q) : t σ H fun x H1 => ∃ c, x = .bl c ∧ Q c H1 := by
  obtain ⟨us, w, rfl, m, sl, h⟩ := h
  refine ht _ ⟨us, w, rfl, m, sl, (Pt.bind h).imp ?_⟩
  rintro x H1 ⟨w1, a, rfl, e1, m1, r1, h1⟩
  cases r1 with
  | bl c => exact ⟨c, rfl, h1 w1 c rfl (Ext.refl _) m1 rfl⟩
  | _ => exact False.elim h1
theorem t_cmp {op : CmpOp} {r : R2} {k : U → U → List UO → Rs U} (ho : OpR X (compareOp op) r) (hk : Op2 G r k) (ha : PE X a (tE G fa W)) (hb : PE X b (tE G fb W)) (hm : behindInMarks op b = false) : PT X (.Compare a [op] [b] pos) (tT G (bE (e2 k fa fb)) W) :=
  PT.imp (pt_cmpR ho ha hb hm) fun _ _ _ h => bE_of (t := tOp r (tE G fa W) (tE G fb W)) (fun _ q => two_of hk q) h
theorem t_val {e : Expr} {f : Ev} (h : PE X e (tE G f W)) (he : ∀ whole, isTrue e X.env whole = (do let v ← whole; standAt e.pos; holding [v] (truthy v)) := by intro _; rfl) : PT X e (tT G (bE f) W) :=
  PT.imp (pt_val h he) fun _ _ _ h => bE_of (t := tE G f W) (fun _ q => q) h
/-! ### names and constants -/
def eVar (i : Nat) : Ev := fun us h => match us[i]? with | some (some u) => .ok u h | _ => .no
def eC (u : U) : Ev := fun _ h => .ok u h
theorem f_var {i : Nat} {x : Str} {pos : Pos} (hN : X.N[i]? = some x := by rfl) (hv : Vis X.env.scope x := by first | exact Or.inl rfl | exact Or.inr (Or.inl rfl) | exact Or.inr (Or.inr rfl)) (hd : (x == ("__debug__" : Str)) = false := by decide)
    (hcd : (x == ("__classdict__" : Str)) = false := by decide) : PE X (.Name x pos) (tE G (eVar i) W) :=
  PE.imp (pe_var (i := i) hN hv hd hcd) fun σ H Q ⟨us, w, e, m, sl, h⟩ => by
    subst e
    unfold eVar at h
    split at h
    · rename_i u q
      obtain ⟨v, e1, r⟩ := sl.2 i u q
      exact ⟨v, e1, h w v rfl (Ext.refl w) m r⟩
    · exact h.elim
theorem c_of {u : U} {v : V} {σ : L2.St} {H : Hp} {Q : VK} (r : ∀ w, R G w u v) (h : tE G (eC u) W σ H Q) : Q v H := by
  obtain ⟨us, w, rfl, m, sl, h⟩ := h
  exact h w v rfl (Ext.refl w) m (r w)
theorem f_int {i j pos} : PE X (.Constant (.int i) j pos) (tE G (eC (.int i)) W) := PE.imp pe_int fun _ _ _ h => c_of (fun _ => .int i) h
theorem f_bl {b j pos} : PE X (.Constant (.bool b) j pos) (tE G (eC (.bl b)) W) := PE.imp pe_bl fun _ _ _ h => c_of (fun _ => .bl b) h
theorem f_non {j pos} : PE X (.Constant .none j pos) (tE G (eC .non) W) := PE.imp pe_non fun _ _ _ h => c_of (fun _ => .non) h
theorem f_str {x j pos} : PE X (.Constant (.str x) j pos) (tE G (eC (.str x)) W) := PE.imp pe_str fun _ _ _ h => c_of (fun _ => .str x) h
/-- a built-in type as a value -/
theorem f_ty {x : Str} {n : String} {pos : Pos} (hg : Gl X x) (hm : X.mg x = none) (hv : bootBuiltins x = some (.type n)) (hn : x ≠ "__name__" := by decide) (hd : (x == ("__debug__" : Str)) = false := by decide) : PE X (.Name x pos) (tE G (eC (.ty n)) W) :=
  PE.imp (pe_bltn (v := .ty n) hg hm hv rfl hn hd) fun _ _ _ h => c_of (fun _ => .ty n) h
/-! ### arguments, displays -/
def eNil : EvA := fun _ h => .ok [] h
def eCons (fa : Ev) (fr : EvA) : EvA := fun us h => (fa us h).bind fun a h1 => (fr us h1).bind fun r h2 => .ok (a :: r) h2
theorem fa_nil : PA X [] (tA G eNil W) := PA.imp pa_nil fun _ _ _ ⟨us, w, e, m, sl, h⟩ => by
  subst e
  exact h w [] rfl (Ext.refl w) m .nil
theorem fa_cons {e : Expr} {es : List Expr} {fe : Ev} {fr : EvA} (ha : PE X e (tE G fe W)) (hr : PA X es (tA G fr W)) (hs : starEach (e :: es) X.env = (false, eval e X.env) :: starEach es X.env := by rfl) : PA X (e :: es) (tA G (eCons fe fr) W) :=
  PA.imp (pa_cons ha hr hs) fun σ _ Q ⟨us, w, e, m, sl, h⟩ => by
    subst e
    refine ⟨us, w, rfl, m, sl, (Pt.bind h).imp ?_⟩
    rintro x H1 ⟨w1, a, rfl, e1, m1, r1, h1⟩
    refine ⟨us, w1, rfl, m1, sl.up m e1, (Pt.bind h1).imp ?_⟩
    rintro xs H2 ⟨w2, b, rfl, e2, m2, r2, h2⟩
    exact h2 w2 (x :: xs) rfl (Ext.refl _) m2 (.cons (r1.up m1 e2) r2)
def eTup (f : EvA) : Ev := fun us h => (f us h).bind fun xs h1 => if szOk xs.length then .ok (.tup xs) h1 else .no
def eLst (f : EvA) : EvL := fun us h => (f us h).bind fun xs h1 => if szOk xs.length then .ok xs h1 else .no
theorem f_tup {es : List Expr} {f : EvA} {x1} (h : PA X es (tA G f W)) : PE X (.Tuple es x1 pos) (tE G (eTup f) W) :=
  PE.imp (pe_tup h) fun σ _ Q ⟨us, w, e, m, sl, h⟩ => by
    subst e
    refine ⟨us, w, rfl, m, sl, (Pt.bind h).imp ?_⟩
    rintro vs H1 ⟨w1, xs, rfl, e1, m1, r1, h1⟩
    split at h1
    · rename_i hz
      exact ⟨by rw [← r1.length]; exact szOk_le hz, fun p hp => newT m1 r1 rfl h1 hp⟩
    · exact h1.elim
theorem PtN.bind {α β : Type} {Rel : Wd → α → β → Prop} {r : Rs α} {k : α → List UO → Rs (List U)} {σ : L2.St} {w : Wd} {Q : VK} (h : PtN G W σ w (r.bind k) Q) :
    Pt G Rel W σ w r fun b H1 => ∃ w1 a, w1.H = H1 ∧ Ext w w1 ∧ Sm G w1 ∧ Rel w1 a b ∧ PtN G W σ w (k a w1.h) Q := by
  cases r with
  | ok a hh =>
    intro w' b e1 e2 m rl
    subst e1
    exact ⟨w', a, rfl, e2, m, rl, h⟩
  | ex x hh => exact h
  | no => exact h
theorem f_lst {es : List Expr} {f : EvA} (h : PA X es (tA G f W)) : PE X (.List es pos) (tN G (eLst f) W) :=
  PE.imp (pe_lst h) fun σ _ Q ⟨us, w, e, m, sl, h⟩ => by
    subst e
    refine ⟨us, w, rfl, m, sl, (PtN.bind h).imp ?_⟩
    rintro vs H1 ⟨w1, xs, rfl, e1, m1, r1, h1⟩
    split at h1
    · rename_i hz
      exact ⟨by rw [← r1.length]; exact szOk_le hz, fun p hp => newL e1 m1 r1 rfl h1 hp⟩
    · exact h1.elim
/-! ### tests -/
def bAnd (f g : EvB) : EvB := fun us h => (f us h).bind fun c h1 => match c with | true => g us h1 | false => .ok false h1
def bOr (f g : EvB) : EvB := fun us h => (f us h).bind fun c h1 => match c with | true => .ok true h1 | false => g us h1
def bNot (f : EvB) : EvB := fun us h => (f us h).bind fun c h1 => .ok (!c) h1
variable {fA fB : EvB} {rest : List Expr}
theorem w_and1 (ha : PT X a (tT G fA W)) : PW X (.BoolOp .And [a] pos) (tT G fA W) := pw_and1 ha
theorem w_or1 (ha : PT X a (tT G fA W)) : PW X (.BoolOp .Or [a] pos) (tT G fA W) := pw_or1 ha
theorem PW.imp {X : Cx} {e : Expr} {t t' : TT} (h : PW X e t) (i : ∀ σ H Q, t' σ H Q → t σ H Q) : PW X e t' := ⟨fun wh pins s σ H Q I q => h.run wh pins s σ H Q I (i σ H Q q)⟩
theorem w_and (ha : PT X a (tT G fA W)) (hb : PW X (.BoolOp .And (b :: rest) pos) (tT G fB W)) : PW X (.BoolOp .And (a :: b :: rest) pos) (tT G (bAnd fA fB) W) :=
  PW.imp (pw_and ha hb) fun σ _ Q ⟨us, w, e, m, sl, h⟩ => by
    subst e
    refine ⟨us, w, rfl, m, sl, (Pt.bind (Rel := fun _ (a b : Bool) => a = b) h).imp ?_⟩
    rintro c H1 ⟨w1, a, rfl, e1, m1, rfl, h1⟩
    cases a with
    | true => exact ⟨us, w1, rfl, m1, sl.up m e1, h1⟩
    | false => exact h1 w1 false rfl (Ext.refl _) m1 rfl
theorem w_or (ha : PT X a (tT G fA W)) (hb : PW X (.BoolOp .Or (b :: rest) pos) (tT G fB W)) : PW X (.BoolOp .Or (a :: b :: rest) pos) (tT G (bOr fA fB) W) :=
  PW.imp (pw_or ha hb) fun σ _ Q ⟨us, w, e, m, sl, h⟩ => by
    subst e
    refine ⟨us, w, rfl, m, sl, (Pt.bind (Rel := fun _ (a b : Bool) => a = b) h).imp ?_⟩
    rintro c H1 ⟨w1, a, rfl, e1, m1, rfl, h1⟩
    cases a with
    | false => exact ⟨us, w1, rfl, m1, sl.up m e1, h1⟩
    | true => exact h1 w1 true rfl (Ext.refl _) m1 rfl
theorem w_pt {e : Expr} (h : PW X e (tT G fA W)) : PT X e (tT G fA W) := h.pt
theorem t_not (ha : PT X a (tT G fA W)) : PT X (.UnaryOp .Not a pos) (tT G (bNot fA) W) :=
  PT.imp (pt_not ha) fun σ _ Q ⟨us, w, e, m, sl, h⟩ => by
    subst e
    refine ⟨us, w, rfl, m, sl, (Pt.bind (Rel := fun _ (a b : Bool) => a = b) h).imp ?_⟩
    rintro c H1 ⟨w1, a, rfl, e1, m1, rfl, h1⟩
    exact h1 w1 _ rfl (Ext.refl _) m1 rfl
def eIf (c : EvB) (f g : Ev) : Ev := fun us h => (c us h).bind fun b h1 => match b with | true => f us h1 | false => g us h1
theorem f_if {c : Expr} (hc : PT X c (tT G fA W)) (ha : PE X a (tE G fa W)) (hb : PE X b (tE G fb W)) : PE X (.IfExp c a b pos) (tE G (eIf fA fa fb) W) :=
  PE.imp (pe_ifExp hc ha hb) fun σ _ Q ⟨us, w, e, m, sl, h⟩ => by
    subst e
    refine ⟨us, w, rfl, m, sl, (Pt.bind (Rel := fun _ (a b : Bool) => a = b) h).imp ?_⟩
    rintro c H1 ⟨w1, a, rfl, e1, m1, rfl, h1⟩
    cases a with
    | true => exact ⟨us, w1, rfl, m1, sl.up m e1, h1⟩
    | false => exact ⟨us, w1, rfl, m1, sl.up m e1, h1⟩
/-- truth of a value -/
def truU (h : List UO) : U → Option Bool
  | .non => some false
  | .bl b => some b
  | .int i => some (i != 0)
  | .str x => if szOk x.length then some ((x.length : Int) != 0) else none
  | .tup xs => some (!xs.isEmpty)
  | u => match lstU h u with | some xs => some (!xs.isEmpty) | none => none
def bTru (f : Ev) : EvB := fun us h => (f us h).bind fun u h1 => match truU h1 u with | some c => .ok c h1 | none => .no
theorem RL.isEmpty {w : Wd} {us : List U} {vs : List V} (l : RL G w us vs) : us.isEmpty = vs.isEmpty := by cases l <;> rfl
theorem truU_of {w : Wd} (m : Sm G w) {u : U} {v : V} {c : Bool} (r : R G w u v) (h : truU w.h u = some c) : TruV G.K v w.H c := by
  have viaL : ∀ {u : U} {v : V}, R G w u v → (match lstU w.h u with | some xs => some (!xs.isEmpty) | none => none) = some c → TruV G.K v w.H c := by
    intro u v r h
    split at h
    · rename_i xs q
      obtain ⟨a, vs, rfl, hs, l⟩ := lstU_of m r q
      cases h
      exact .inl ⟨vs, hs, by rw [l.isEmpty]⟩
    · cases h
  cases r with
  | non => cases h; rfl
  | bl b => cases h; rfl
  | int i => cases h; rfl
  | str x =>
    have h : (if szOk x.length then some ((x.length : Int) != 0) else none) = some c := h
    split at h
    · rename_i hz
      cases h
      exact ⟨szOk_le hz, rfl⟩
    · cases h
  | tup h1 l => cases h; exact .inr (.inl ⟨_, h1.1, by rw [l.isEmpty]⟩)
  | fl h1 h2 l => exact viaL (.fl h1 h2 l) h
  | scr h1 => exact viaL (.scr h1) h
  | ref h1 => exact viaL (.ref h1) h
  | ty n => cases h
  | tx _ _ _ => cases h
  | ob _ _ _ _ => cases h
theorem t_tru {e : Expr} {f : Ev} (hK : X.K = G.K) (ha : PE X e (tE G f W)) (he : ∀ whole, isTrue e X.env whole = (do let v ← whole; standAt e.pos; holding [v] (truthy v)) := by intro _; rfl) : PT X e (tT G (bTru f) W) :=
  PT.imp (pt_truth ha he) fun σ _ Q ⟨us, w, e, m, sl, h⟩ => by
    subst e
    refine ⟨us, w, rfl, m, sl, (Pt.bind h).imp ?_⟩
    rintro x H1 ⟨w1, a, rfl, e1, m1, r1, h1⟩
    split at h1
    · rename_i c q
      exact ⟨c, by rw [hK]; exact truU_of m1 r1 q, h1 w1 c rfl (Ext.refl _) m1 rfl⟩
    · exact h1.elim
/-- a and b, a or b as values, all True or False -/
def eAndV (f g : Ev) : Ev := fun us h => (f us h).bind fun u h1 => match u with | .bl true => g us h1 | .bl false => .ok (.bl false) h1 | _ => .no
def eOrV (f g : Ev) : Ev := fun us h => (f us h).bind fun u h1 => match u with | .bl false => g us h1 | .bl true => .ok (.bl true) h1 | _ => .no
def eNotB (f : EvB) : Ev := fun us h => (f us h).bind fun c h1 => .ok (.bl (!c)) h1
end
end Fn
namespace Fn
open PySem L2
section
variable {G : Cfg} {W : WX} {σ : L2.St} {w : Wd} {Q : VK}
/-- an end that changes nothing, its value told by its content -/
theorem Pt.int {i : Int} (h : Pt G (R G) W σ w (.ok (.int i) w.h) Q) (m : Sm G w) : Q (.int i) w.H := h w _ rfl (Ext.refl w) m (.int i)
theorem Pt.bl {b : Bool} (h : Pt G (R G) W σ w (.ok (.bl b) w.h) Q) (m : Sm G w) : Q (.bl b) w.H := h w _ rfl (Ext.refl w) m (.bl b)
theorem Pt.str {x : Str} (h : Pt G (R G) W σ w (.ok (.str x) w.h) Q) (m : Sm G w) : Q (.str x) w.H := h w _ rfl (Ext.refl w) m (.str x)
theorem Pt.non (h : Pt G (R G) W σ w (.ok .non w.h) Q) (m : Sm G w) : Q .non w.H := h w _ rfl (Ext.refl w) m .non
theorem Pt.val {u : U} {v : V} (h : Pt G (R G) W σ w (.ok u w.h) Q) (m : Sm G w) (r : R G w u v) : Q v w.H := h w v rfl (Ext.refl w) m r
/-- a list laid, read alone -/
theorem Pt.newF {xs : List U} {vs : List V} (h : Pt G (R G) W σ w (.ok (.fl xs) w.h) Q) (m : Sm G w) (l : RL G w xs vs) {p : Addr} (hp : w.H p = none) : Q (.ref p) (upd w.H p (.lst vs)) :=
  h (w.new p (.lst vs)) (.ref p) rfl (Ext.new hp) (m.new hp) (.fl upd_same (m.free_z hp) (l.up m (Ext.new hp)))
theorem Pt.newT {xs : List U} {vs : List V} (h : Pt G (R G) W σ w (.ok (.tup xs) w.h) Q) (m : Sm G w) (l : RL G w xs vs) {p : Addr} (hp : w.H p = none) : Q (.ref p) (upd w.H p (.tup vs)) :=
  Fn.newT m l rfl h hp
end
/-! ### operators -/
def kAdd (x y : U) (h : List UO) : Rs U :=
  match x, y with
  | .int i, .int j => .ok (.int (i + j)) h
  | .str a, .str b => if szOk (a.length + b.length) then .ok (.str (a ++ b)) h else .no
  | .tup xs, .tup ys => if szOk (xs.length + ys.length) then .ok (.tup (xs ++ ys)) h else .no
  | x, y => match lstH h x, lstH h y with
    | some xs, some ys => if szOk (xs.length + ys.length) then .ok (.fl (xs ++ ys)) h else .no
    | _, _ => .no
def rAdd4 (K : PySem.W.Frag) : R2 := fun x y H Q => (rI0 fun i j => .int (i + j)) x y H Q ∨ (∃ i j, x = .str i ∧ y = .str j ∧ i.length + j.length ≤ sizeLine ∧ Q (.str (i ++ j)) H) ∨ rCatA K x y H Q ∨ rCat x y H Q
theorem or_add {X : Cx} : OpR X (binaryOp .Add) (rAdd4 X.K) := op_add.or (op_add_str.or (op_catA.or op_cat))
section
variable {G : Cfg} {w : Wd}
theorem RL.nil_iff {us : List U} {vs : List V} (l : RL G w us vs) : us = [] ↔ vs = [] := by cases l <;> simp
theorem RL.nil_of {us : List U} (l : RL G w us []) : us = [] := by cases l; rfl
end
theorem ok_add {G : Cfg} : Op2 G (rAdd4 G.K) kAdd := by
  intro w σ W x y a b Q m rx ry h
  unfold kAdd at h
  have lists : (match lstH w.h x, lstH w.h y with
    | some xs, some ys => if szOk (xs.length + ys.length) then (Rs.ok (.fl (xs ++ ys)) w.h : Rs U) else .no
    | _, _ => .no) ≠ .no → Pt G (R G) W σ w (match lstH w.h x, lstH w.h y with
    | some xs, some ys => if szOk (xs.length + ys.length) then (Rs.ok (.fl (xs ++ ys)) w.h : Rs U) else .no
    | _, _ => .no) Q → rAdd4 G.K a b w.H Q := by
    intro _ h
    split at h
    · rename_i xs ys q1 q2
      split at h
      · rename_i hz
        obtain ⟨p1, vs, rfl, h1, l1⟩ := lstH_of m rx q1
        obtain ⟨p2, ws, rfl, h2, l2⟩ := lstH_of m ry q2
        exact .inr (.inr (.inr ⟨p1, p2, vs, ws, rfl, rfl, h1, h2, by rw [← l1.length, ← l2.length]; exact szOk_le hz, fun p hp => h.newF m (l1.append l2) hp⟩))
      · exact h.elim
    · exact h.elim
  cases rx with
  | int i =>
    cases ry with
    | int j => exact .inl ⟨i, j, rfl, rfl, h.int m⟩
    | _ => exact h.elim
  | str i =>
    cases ry with
    | str j =>
      dsimp only at h
      split at h
      · rename_i hz
        exact .inr (.inl ⟨i, j, rfl, rfl, szOk_le hz, h.str m⟩)
      · exact h.elim
    | _ => exact h.elim
  | tup h1 l1 =>
    cases ry with
    | tup h2 l2 =>
      dsimp only at h
      split at h
      · rename_i hz
        refine .inr (.inr (.inl ⟨_, _, _, _, rfl, rfl, h1.1, h2.1, by rw [← l1.length, ← l2.length]; exact szOk_le hz, fun e => ?_, fun e1 e2 => ?_, fun _ _ p hp => h.newT m (l1.append l2) hp⟩))
        · subst e
          rw [l1.nil_of, List.nil_append] at h
          exact h.val m (.tup h2 l2)
        · subst e2
          rw [l2.nil_of, List.append_nil] at h
          exact h.val m (.tup h1 l1)
      · exact h.elim
    | _ => exact h.elim
  | fl h1 h2 l =>
    cases ry with
    | fl h3 h4 l' => exact lists (by intro z; dsimp only at h; rw [z] at h; exact h) h
    | ref h3 => exact lists (by intro z; dsimp only at h; rw [z] at h; exact h) h
    | _ => exact h.elim
  | ref h1 =>
    cases ry with
    | fl h3 h4 l' => exact lists (by intro z; dsimp only at h; rw [z] at h; exact h) h
    | ref h3 => exact lists (by intro z; dsimp only at h; rw [z] at h; exact h) h
    | _ =>
      dsimp only at h
      simp only [lstH] at h
      split at h
      · rename_i q; cases q
      · exact h.elim
  | _ => exact h.elim
def kI0 (g : Int → Int → Int) (x y : U) (h : List UO) : Rs U := match x, y with | .int i, .int j => .ok (.int (g i j)) h | _, _ => .no
def kI (c : Int → Int → Bool) (g : Int → Int → Int) (x y : U) (h : List UO) : Rs U := match x, y with | .int i, .int j => (match c i j with | true => .ok (.int (g i j)) h | false => .no) | _, _ => .no
def kIB (g : Int → Int → Bool) (x y : U) (h : List UO) : Rs U := match x, y with | .int i, .int j => .ok (.bl (g i j)) h | _, _ => .no
theorem ok_I0 {G : Cfg} {g : Int → Int → Int} : Op2 G (rI0 fun i j => .int (g i j)) (kI0 g) := by
  intro w σ W x y a b Q m rx ry h
  cases rx with
  | int i =>
    cases ry with
    | int j => exact ⟨i, j, rfl, rfl, h.int m⟩
    | _ => exact h.elim
  | _ => exact h.elim
theorem ok_IB {G : Cfg} {g : Int → Int → Bool} : Op2 G (rI0 fun i j => .bl (g i j)) (kIB g) := by
  intro w σ W x y a b Q m rx ry h
  cases rx with
  | int i =>
    cases ry with
    | int j => exact ⟨i, j, rfl, rfl, h.bl m⟩
    | _ => exact h.elim
  | _ => exact h.elim
theorem ok_I {G : Cfg} {c : Int → Int → Bool} {C : Int → Int → Prop} {g : Int → Int → Int} (hc : ∀ i j, c i j = true → C i j) : Op2 G (rI C fun i j => .int (g i j)) (kI c g) := by
  intro w σ W x y a b Q m rx ry h
  cases rx with
  | int i =>
    cases ry with
    | int j =>
      unfold kI at h
      dsimp only at h
      split at h
      · rename_i q
        exact ⟨i, j, rfl, rfl, hc i j q, h.int m⟩
      · exact h.elim
    | _ => exact h.elim
  | _ => exact h.elim
def cMul (i j : Int) : Bool := Nat.blt i.natAbs 18446744073709551616 || Nat.blt j.natAbs 18446744073709551616
theorem cMul_ok (i j : Int) (h : cMul i j = true) : CMul i j := by
  unfold cMul at h
  rw [Bool.or_eq_true] at h
  have e : (2 : Int) ^ 64 = 18446744073709551616 := by decide
  unfold CMul
  rw [e]
  rcases h with h | h
  · have : i.natAbs < 18446744073709551616 := Nat.le_of_ble_eq_true h
    left; omega
  · have : j.natAbs < 18446744073709551616 := Nat.le_of_ble_eq_true h
    right; omega
def cDiv (_ j : Int) : Bool := !(j == 0) && Nat.blt j.natAbs 1073741824
theorem cDiv_ok (i j : Int) (h : cDiv i j = true) : CDivN i j := by
  unfold cDiv at h
  rw [Bool.and_eq_true] at h
  have : j.natAbs < 1073741824 := Nat.le_of_ble_eq_true h.2
  exact ⟨by simpa using h.1, this⟩
def cMod (_ j : Int) : Bool := !(j == 0)
theorem cMod_ok (i j : Int) (h : cMod i j = true) : j ≠ 0 := by simpa [cMod] using h
def cPow (i j : Int) : Bool := (match j with | .ofNat n => Nat.ble n 1000000 | _ => false) && Nat.blt i.natAbs 18446744073709551616
theorem cPow_ok (i j : Int) (h : cPow i j = true) : CPow i j := by
  unfold cPow at h
  rw [Bool.and_eq_true] at h
  obtain ⟨h1, h2⟩ := h
  have h2 : i.natAbs < 18446744073709551616 := Nat.le_of_ble_eq_true h2
  split at h1
  · rename_i n
    have h1 : n ≤ 1000000 := Nat.le_of_ble_eq_true h1
    refine ⟨Int.natCast_nonneg n, ?_, ?_⟩
    · show ((n : Nat) : Int) ≤ 1000000
      omega
    · show i.natAbs < 2 ^ 64
      have e : (2 : Nat) ^ 64 = 18446744073709551616 := by decide
      omega
  · cases h1
def cNn (_ j : Int) : Bool := match j with | .ofNat _ => true | _ => false
theorem cNn_ok (i j : Int) (h : cNn i j = true) : 0 ≤ j := by
  unfold cNn at h
  split at h
  · exact Int.natCast_nonneg _
  · cases h
/-- * : ints, a list by a count -/
def kMul (x y : U) (h : List UO) : Rs U :=
  match y with
  | .int j => match x with
    | .int i => (match cMul i j with | true => .ok (.int (i * j)) h | false => .no)
    | x => match lstH h x with
      | some xs => (match Nat.ble j.toNat 100000 && (Nat.blt j.natAbs 9223372036854775808) && szOk (xs.length * j.toNat) with | true => .ok (.fl (List.replicate j.toNat xs).flatten) h | false => .no)
      | none => .no
  | _ => .no
def rMul2 : R2 := fun x y H Q => (rI CMul fun i j => .int (i * j)) x y H Q ∨ rRep x y H Q
theorem or_mul {X : Cx} : OpR X (binaryOp .Mult) rMul2 := op_mul.or op_rep
theorem ok_mul {G : Cfg} : Op2 G rMul2 kMul := by
  intro w σ W x y a b Q m rx ry h
  cases ry with
  | int j =>
    have viaL : ∀ {x : U} {a : V}, R G w x a → Pt G (R G) W σ w (match lstH w.h x with
      | some xs => (match Nat.ble j.toNat 100000 && (Nat.blt j.natAbs 9223372036854775808) && szOk (xs.length * j.toNat) with | true => (.ok (.fl (List.replicate j.toNat xs).flatten) w.h : Rs U) | false => .no)
      | none => .no) Q → rMul2 a (.int j) w.H Q := by
      intro x a rx h
      split at h
      · rename_i xs q
        split at h
        · rename_i hz
          rw [Bool.and_eq_true, Bool.and_eq_true] at hz
          have h1 : j.natAbs < 9223372036854775808 := Nat.le_of_ble_eq_true hz.1.2
          obtain ⟨p1, vs, rfl, h2, l1⟩ := lstH_of m rx q
          have e : (2 : Int) ^ 63 = 9223372036854775808 := by decide
          refine .inr ⟨p1, j, vs, rfl, rfl, h2, by omega, by omega, by rw [← l1.length]; exact szOk_le hz.2, fun p hp => ?_⟩
          exact h.newF m (l1.rep _) hp
        · exact h.elim
      · exact h.elim
    cases rx with
    | int i =>
      unfold kMul at h
      dsimp only at h
      split at h
      · rename_i q
        exact .inl ⟨i, j, rfl, rfl, cMul_ok i j q, h.int m⟩
      · exact h.elim
    | fl h1 h2 l => exact viaL (.fl h1 h2 l) h
    | ref h1 => exact viaL (.ref h1) h
    | _ => exact h.elim
  | _ => exact h.elim
section
variable {X : Cx} {G : Cfg} {W : WX} {a b : Expr} {fa fb : Ev} {pos : Pos}
theorem f_add (hK : X.K = G.K) (ha : PE X a (tE G fa W)) (hb : PE X b (tE G fb W)) : PE X (.BinOp a .Add b pos) (tE G (e2 kAdd fa fb) W) := f_op2 (r := rAdd4 X.K) or_add (hK ▸ ok_add) ha hb
theorem f_sub (ha : PE X a (tE G fa W)) (hb : PE X b (tE G fb W)) : PE X (.BinOp a .Sub b pos) (tE G (e2 (kI0 fun i j => i - j) fa fb) W) := f_op2 op_sub ok_I0 ha hb
theorem f_mul (ha : PE X a (tE G fa W)) (hb : PE X b (tE G fb W)) : PE X (.BinOp a .Mult b pos) (tE G (e2 kMul fa fb) W) := f_op2 or_mul ok_mul ha hb
theorem f_fdiv (ha : PE X a (tE G fa W)) (hb : PE X b (tE G fb W)) : PE X (.BinOp a .FloorDiv b pos) (tE G (e2 (kI cDiv Int.fdiv) fa fb) W) := f_op2 op_fdivN (ok_I cDiv_ok) ha hb
theorem f_mod (ha : PE X a (tE G fa W)) (hb : PE X b (tE G fb W)) : PE X (.BinOp a .Mod b pos) (tE G (e2 (kI cMod Int.fmod) fa fb) W) := f_op2 op_modN (ok_I cMod_ok) ha hb
theorem f_pow (ha : PE X a (tE G fa W)) (hb : PE X b (tE G fb W)) : PE X (.BinOp a .Pow b pos) (tE G (e2 (kI cPow fun i j => i ^ j.toNat) fa fb) W) := f_op2 op_pow (ok_I cPow_ok) ha hb
theorem f_shl (ha : PE X a (tE G fa W)) (hb : PE X b (tE G fb W)) : PE X (.BinOp a .LShift b pos) (tE G (e2 (kI cPow fun i j => i * 2 ^ j.toNat) fa fb) W) := f_op2 op_shl (ok_I cPow_ok) ha hb
theorem f_shr (ha : PE X a (tE G fa W)) (hb : PE X b (tE G fb W)) : PE X (.BinOp a .RShift b pos) (tE G (e2 (kI cNn fun i j => i / 2 ^ j.toNat) fa fb) W) := f_op2 op_shr (ok_I cNn_ok) ha hb
theorem f_bitand (ha : PE X a (tE G fa W)) (hb : PE X b (tE G fb W)) : PE X (.BinOp a .BitAnd b pos) (tE G (e2 (kI0 Builtin.bitAnd) fa fb) W) := f_op2 op_and ok_I0 ha hb
def kNeg (x : U) (h : List UO) : Rs U := match x with | .int i => .ok (.int (-i)) h | _ => .no
theorem f_neg (ha : PE X a (tE G fa W)) : PE X (.UnaryOp .USub a pos) (tE G (e1 kNeg fa) W) := f_un un_neg (fun w σ W x v Q m r h => by
  cases r with
  | int i => exact ⟨i, rfl, h.int m⟩
  | _ => exact h.elim) ha
/-! ### comparisons -/
def kLt := kIB fun i j => decide (i < j)
def kLe := kIB fun i j => decide (i ≤ j)
def kGt := kIB fun i j => decide (j < i)
def kGe := kIB fun i j => decide (j ≤ i)
theorem f_lt (ha : PE X a (tE G fa W)) (hb : PE X b (tE G fb W)) : PE X (.Compare a [.Lt] [b] pos) (tE G (e2 kLt fa fb) W) := f_cmp op_lt ok_IB ha hb (nomark _)
theorem f_le (ha : PE X a (tE G fa W)) (hb : PE X b (tE G fb W)) : PE X (.Compare a [.LtE] [b] pos) (tE G (e2 kLe fa fb) W) := f_cmp op_le ok_IB ha hb (nomark _)
theorem f_gt (ha : PE X a (tE G fa W)) (hb : PE X b (tE G fb W)) : PE X (.Compare a [.Gt] [b] pos) (tE G (e2 kGt fa fb) W) := f_cmp op_gt ok_IB ha hb (nomark _)
theorem f_ge (ha : PE X a (tE G fa W)) (hb : PE X b (tE G fb W)) : PE X (.Compare a [.GtE] [b] pos) (tE G (e2 kGe fa fb) W) := f_cmp op_ge ok_IB ha hb (nomark _)
theorem t_lt (ha : PE X a (tE G fa W)) (hb : PE X b (tE G fb W)) : PT X (.Compare a [.Lt] [b] pos) (tT G (bE (e2 kLt fa fb)) W) := t_cmp op_lt ok_IB ha hb (nomark _)
theorem t_le (ha : PE X a (tE G fa W)) (hb : PE X b (tE G fb W)) : PT X (.Compare a [.LtE] [b] pos) (tT G (bE (e2 kLe fa fb)) W) := t_cmp op_le ok_IB ha hb (nomark _)
theorem t_gt (ha : PE X a (tE G fa W)) (hb : PE X b (tE G fb W)) : PT X (.Compare a [.Gt] [b] pos) (tT G (bE (e2 kGt fa fb)) W) := t_cmp op_gt ok_IB ha hb (nomark _)
theorem t_ge (ha : PE X a (tE G fa W)) (hb : PE X b (tE G fb W)) : PT X (.Compare a [.GtE] [b] pos) (tT G (bE (e2 kGe fa fb)) W) := t_cmp op_ge ok_IB ha hb (nomark _)
end
/-! ### data -/
def mapO {α β : Type} (f : α → Option β) : List α → Option (List β)
  | [] => some []
  | x :: r => match f x with
    | some y => (match mapO f r with | some ys => some (y :: ys) | none => none)
    | none => none
def toD : Nat → List UO → U → Option PyData
  | 0, _, _ => none
  | n + 1, h, u => match u with
    | .non => some .none
    | .bl b => some (.bool b)
    | .int i => some (.int i)
    | .str x => if PyData.strOk x then some (.str x) else none
    | .tup xs => (match mapO (toD n h) xs with | some ds => some (.tuple ds) | none => none)
    | .fl xs => (match mapO (toD n h) xs with | some ds => some (.list ds) | none => none)
    | .scr xs => some (.list (xs.map .int))
    | .ref i => (match h[i]? with | some (.lst xs) => (match mapO (toD n h) xs with | some ds => some (.list ds) | none => none) | _ => none)
    | _ => none
section
variable {G : Cfg} {w : Wd}
theorem dpInts {H : Hp} : ∀ xs : List Int, DpAll G.K H (xs.map V.int) (xs.map PyData.int)
  | [] => .nil
  | x :: r => .cons (.int x) (dpInts r)
theorem layInts : ∀ xs : List Int, PyData.canLayAll0 (xs.map PyData.int) = true ∧ PyData.depthAll (xs.map PyData.int) = 0
  | [] => by simp [PyData.canLayAll0, PyData.depthAll]
  | x :: r => by simp [PyData.canLayAll0, PyData.canLay0, PyData.depthAll, PyData.depth, layInts r]
theorem toD_all {n : Nat} (ih : ∀ (u : U) (v : V) (d : PyData), R G w u v → toD n w.h u = some d → Dp G.K w.H v d ∧ d.canLay0 = true ∧ d.depth ≤ n) :
    ∀ {us : List U} {vs : List V} {ds : List PyData}, RL G w us vs → mapO (toD n w.h) us = some ds → DpAll G.K w.H vs ds ∧ PyData.canLayAll0 ds = true ∧ PyData.depthAll ds ≤ n
  | _, _, _, .nil, e => by
    cases e
    exact ⟨.nil, by simp [PyData.canLayAll0], by simp [PyData.depthAll]⟩
  | u :: us, v :: vs, ds, .cons r t, e => by
    unfold mapO at e
    split at e
    · rename_i y q1
      split at e
      · rename_i ys q2
        cases e
        obtain ⟨a1, a2, a3⟩ := ih u v y r q1
        obtain ⟨b1, b2, b3⟩ := toD_all ih t q2
        exact ⟨.cons a1 b1, by simp [PyData.canLayAll0, a2, b2], by simp [PyData.depthAll]; omega⟩
      · cases e
    · cases e
theorem toD_of (m : Sm G w) : ∀ (n : Nat) (u : U) (v : V) (d : PyData), R G w u v → toD n w.h u = some d → Dp G.K w.H v d ∧ d.canLay0 = true ∧ d.depth ≤ n
  | 0, _, _, _, _, e => by cases e
  | n + 1, u, v, d, r, e => by
    have ih := toD_of m n
    unfold toD at e
    cases r with
    | non => cases e; exact ⟨.non, by simp [PyData.canLay0], by simp [PyData.depth]⟩
    | bl b => cases e; exact ⟨.bl b, by simp [PyData.canLay0], by simp [PyData.depth]⟩
    | int b => cases e; exact ⟨.int b, by simp [PyData.canLay0], by simp [PyData.depth]⟩
    | str x =>
      dsimp only at e
      split at e
      · rename_i q
        cases e
        exact ⟨.str x, by simpa [PyData.canLay0] using q, by simp [PyData.depth]⟩
      · cases e
    | tup h1 l =>
      dsimp only at e
      split at e
      · rename_i ds q
        cases e
        obtain ⟨a1, a2, a3⟩ := toD_all ih l q
        exact ⟨.tup h1.1 a1, by simp [PyData.canLay0, a2], by simp [PyData.depth]; omega⟩
      · cases e
    | fl h1 h2 l =>
      dsimp only at e
      split at e
      · rename_i ds q
        cases e
        obtain ⟨a1, a2, a3⟩ := toD_all ih l q
        exact ⟨.lst (.inl (.inl h1)) a1, by simp [PyData.canLay0, a2], by simp [PyData.depth]; omega⟩
      · cases e
    | @scr a xs h1 =>
      cases e
      refine ⟨.lst ?_ (dpInts xs), by simp [PyData.canLay0, (layInts xs).1], by simp [PyData.depth, (layInts xs).2]⟩
      rcases h1 with ⟨o, h1⟩ | h1
      · exact .inl (.inr ⟨o, h1⟩)
      · exact h1 _
    | @ref i a h1 =>
      dsimp only at e
      split at e
      · rename_i ys q
        split at e
        · rename_i ds q2
          cases e
          cases m.obj _ _ _ h1 q with
          | lst h2 l =>
            obtain ⟨a1, a2, a3⟩ := toD_all ih l q2
            exact ⟨.lst (.inl (.inl h2)) a1, by simp [PyData.canLay0, a2], by simp [PyData.depth]; omega⟩
        · cases e
      · cases e
    | ty n => cases e
    | tx _ _ _ => cases e
    | ob _ _ _ _ => cases e
theorem toD_shaped (m : Sm G w) {u : U} {v : V} {d : PyData} (r : R G w u v) (e : toD 20 w.h u = some d) : Dp G.K w.H v d ∧ SeqAt.shaped d = true := by
  obtain ⟨h1, h2, h3⟩ := toD_of m 20 u v d r e
  refine ⟨h1, ?_⟩
  unfold SeqAt.shaped
  rw [h2, Bool.true_and, decide_eq_true_eq]
  omega
end
def eqD (h : List UO) (x y : U) : Option Bool :=
  match x, y with
  | .int i, .int j => some (i == j)
  | x, y => match toD 20 h x, toD 20 h y with
    | some d, some e => some (PyData.eqv d e)
    | _, _ => none
def kEq (x y : U) (h : List UO) : Rs U := match eqD h x y with | some c => .ok (.bl c) h | none => .no
def kNe (x y : U) (h : List UO) : Rs U := match eqD h x y with | some c => .ok (.bl (!c)) h | none => .no
theorem eqD_of {G : Cfg} {w : Wd} (m : Sm G w) {x y : U} {a b : V} {c : Bool} (rx : R G w x a) (ry : R G w y b) (h : eqD w.h x y = some c) :
    ∃ d e, Dp G.K w.H a d ∧ Dp G.K w.H b e ∧ SeqAt.shaped d = true ∧ SeqAt.shaped e = true ∧ PyData.eqv d e = c := by
  unfold eqD at h
  split at h
  · rename_i i j
    cases rx; cases ry
    cases h
    refine ⟨.int i, .int j, .int i, .int j, rfl, rfl, ?_⟩
    simp [PyData.eqv]
  · split at h
    · rename_i d e q1 q2
      cases h
      obtain ⟨a1, a2⟩ := toD_shaped m rx q1
      obtain ⟨b1, b2⟩ := toD_shaped m ry q2
      exact ⟨d, e, a1, b1, a2, b2, rfl⟩
    · cases h
theorem ok_eq {G : Cfg} : Op2 G (rEqD G.K) kEq := by
  intro w σ W x y a b Q m rx ry h
  unfold kEq at h
  split at h
  · rename_i c q
    obtain ⟨d, e, h1, h2, h3, h4, rfl⟩ := eqD_of m rx ry q
    exact ⟨d, e, h1, h2, h3, h4, h.bl m⟩
  · exact h.elim
theorem ok_ne {G : Cfg} : Op2 G (rNeD G.K) kNe := by
  intro w σ W x y a b Q m rx ry h
  unfold kNe at h
  split at h
  · rename_i c q
    obtain ⟨d, e, h1, h2, h3, h4, rfl⟩ := eqD_of m rx ry q
    exact ⟨d, e, h1, h2, h3, h4, h.bl m⟩
  · exact h.elim
/-- in, not in: a list or tuple of data -/
def anyEq (h : List UO) (x : U) : List U → Option Bool
  | [] => some false
  | y :: r => match eqD h y x with
    | some c => (match anyEq h x r with | some c' => some (c || c') | none => none)
    | none => none
section
variable {X : Cx} {G : Cfg} {W : WX} {a b : Expr} {fa fb : Ev} {pos : Pos} {k : Nat}
theorem f_eq (hr : Room k X.A) (hK : X.K = G.K) (ha : PE X a (tE G fa W)) (hb : PE X b (tE G fb W)) : PE X (.Compare a [.Eq] [b] pos) (tE G (e2 kEq fa fb) W) := f_cmp (r := rEqD X.K) (op_eqD hr.units) (hK ▸ ok_eq) ha hb (nomark _)
theorem f_ne (hr : Room k X.A) (hK : X.K = G.K) (ha : PE X a (tE G fa W)) (hb : PE X b (tE G fb W)) : PE X (.Compare a [.NotEq] [b] pos) (tE G (e2 kNe fa fb) W) := f_cmp (r := rNeD X.K) (op_neD hr.units) (hK ▸ ok_ne) ha hb (nomark _)
theorem t_eq (hr : Room k X.A) (hK : X.K = G.K) (ha : PE X a (tE G fa W)) (hb : PE X b (tE G fb W)) : PT X (.Compare a [.Eq] [b] pos) (tT G (bE (e2 kEq fa fb)) W) := t_cmp (r := rEqD X.K) (op_eqD hr.units) (hK ▸ ok_eq) ha hb (nomark _)
theorem t_ne (hr : Room k X.A) (hK : X.K = G.K) (ha : PE X a (tE G fa W)) (hb : PE X b (tE G fb W)) : PT X (.Compare a [.NotEq] [b] pos) (tT G (bE (e2 kNe fa fb)) W) := t_cmp (r := rNeD X.K) (op_neD hr.units) (hK ▸ ok_ne) ha hb (nomark _)
/-- is None -/
def kIsN (x y : U) (h : List UO) : Rs U := match y with | .non => .ok (.bl (match x with | .non => true | _ => false)) h | _ => .no
def kNotN (x y : U) (h : List UO) : Rs U := match y with | .non => .ok (.bl (match x with | .non => false | _ => true)) h | _ => .no
theorem ok_isN {G : Cfg} : Op2 G (fun x y H Q => y = .non ∧ Q (.bl (decide (x = .non))) H) kIsN := by
  intro w σ W x y a b Q m rx ry h
  cases ry with
  | non => refine ⟨rfl, ?_⟩; cases rx <;> exact h.bl m
  | _ => exact h.elim
theorem ok_notN {G : Cfg} : Op2 G (fun x y H Q => y = .non ∧ Q (.bl (!decide (x = .non))) H) kNotN := by
  intro w σ W x y a b Q m rx ry h
  cases ry with
  | non => refine ⟨rfl, ?_⟩; cases rx <;> exact h.bl m
  | _ => exact h.elim
theorem f_isN (ha : PE X a (tE G fa W)) (hb : PE X b (tE G fb W)) : PE X (.Compare a [.Is] [b] pos) (tE G (e2 kIsN fa fb) W) := f_cmp op_isN ok_isN ha hb (nomark _)
theorem f_notN (ha : PE X a (tE G fa W)) (hb : PE X b (tE G fb W)) : PE X (.Compare a [.IsNot] [b] pos) (tE G (e2 kNotN fa fb) W) := f_cmp op_notN ok_notN ha hb (nomark _)
theorem t_isN (ha : PE X a (tE G fa W)) (hb : PE X b (tE G fb W)) : PT X (.Compare a [.Is] [b] pos) (tT G (bE (e2 kIsN fa fb)) W) := t_cmp op_isN ok_isN ha hb (nomark _)
theorem t_notN (ha : PE X a (tE G fa W)) (hb : PE X b (tE G fb W)) : PT X (.Compare a [.IsNot] [b] pos) (tT G (bE (e2 kNotN fa fb)) W) := t_cmp op_notN ok_notN ha hb (nomark _)
end
/-- in, not in: flat items -/
def flatU : U → Bool
  | .non => true | .bl _ => true | .int _ => true | .str _ => true | _ => false
def eqUf : U → U → Bool
  | .int a, .int b => a == b
  | .non, .non => true
  | .bl a, .bl b => a == b
  | .bl a, .int b => (if a then 1 else 0) == b
  | .int a, .bl b => a == (if b then 1 else 0)
  | .str a, .str b => a == b
  | _, _ => false
def inU (x : U) (xs : List U) : Bool := xs.any fun y => eqUf y x
def kIn (neg : Bool) (x y : U) (h : List UO) : Rs U := match seqU h y with
  | some xs => (match flatU x && xs.all flatU with | true => .ok (.bl (if neg then !inU x xs else inU x xs)) h | false => .no)
  | none => .no
section
variable {G : Cfg} {w : Wd}
theorem flat_of {u : U} {v : V} (r : R G w u v) : flatV v = flatU u := by cases r <;> rfl
theorem eqUf_of {u u' : U} {v v' : V} (r : R G w u v) (r' : R G w u' v') (f : flatU u = true) (f' : flatU u' = true) : eqV v v' = eqUf u u' := by
  cases r <;> cases f <;> cases r' <;> cases f' <;> rfl
theorem flats_of : ∀ {us : List U} {vs : List V}, RL G w us vs → vs.all flatV = us.all flatU
  | _, _, .nil => rfl
  | _, _, .cons r t => by rw [List.all_cons, List.all_cons, flat_of r, flats_of t]
theorem inU_of {u : U} {v : V} (r : R G w u v) (f : flatU u = true) : ∀ {us : List U} {vs : List V}, RL G w us vs → us.all flatU = true → L2.inV v vs = inU u us
  | _, _, .nil, _ => rfl
  | _, _, .cons r1 t, h => by
    rw [List.all_cons, Bool.and_eq_true] at h
    unfold L2.inV inU
    rw [List.any_cons, List.any_cons, eqUf_of r1 r h.1 f]
    congr 1
    exact inU_of r f t h.2
theorem ok_in {neg : Bool} : Op2 G (rIn G.K neg) (kIn neg) := by
  intro w σ W x y a b Q m rx ry h
  unfold kIn at h
  split at h
  · rename_i xs q
    split at h
    · rename_i hf
      rw [Bool.and_eq_true] at hf
      obtain ⟨p, vs, rfl, hs, l⟩ := seqU_of m ry q
      refine ⟨p, vs, rfl, hs, by rw [flat_of rx]; exact hf.1, by rw [flats_of l]; exact hf.2, ?_⟩
      rw [inU_of rx hf.1 l hf.2]
      exact h.bl m
    · exact h.elim
  · exact h.elim
end
section
variable {X : Cx} {G : Cfg} {W : WX} {a b : Expr} {fa fb : Ev} {pos : Pos}
theorem f_in (hK : X.K = G.K) (ha : PE X a (tE G fa W)) (hb : PE X b (tE G fb W)) (hm : behindInMarks .In b = false := by rfl) : PE X (.Compare a [.In] [b] pos) (tE G (e2 (kIn false) fa fb) W) := f_cmp (r := rIn X.K false) op_in_seq (hK ▸ ok_in) ha hb hm
theorem f_notin (hK : X.K = G.K) (ha : PE X a (tE G fa W)) (hb : PE X b (tE G fb W)) (hm : behindInMarks .NotIn b = false := by rfl) : PE X (.Compare a [.NotIn] [b] pos) (tE G (e2 (kIn true) fa fb) W) := f_cmp (r := rIn X.K true) op_notIn_seq (hK ▸ ok_in) ha hb hm
theorem t_in (hK : X.K = G.K) (ha : PE X a (tE G fa W)) (hb : PE X b (tE G fb W)) (hm : behindInMarks .In b = false := by rfl) : PT X (.Compare a [.In] [b] pos) (tT G (bE (e2 (kIn false) fa fb)) W) := t_cmp (r := rIn X.K false) op_in_seq (hK ▸ ok_in) ha hb hm
theorem t_notin (hK : X.K = G.K) (ha : PE X a (tE G fa W)) (hb : PE X b (tE G fb W)) (hm : behindInMarks .NotIn b = false := by rfl) : PT X (.Compare a [.NotIn] [b] pos) (tT G (bE (e2 (kIn true) fa fb)) W) := t_cmp (r := rIn X.K true) op_notIn_seq (hK ▸ ok_in) ha hb hm
/-! ### bools as values -/
theorem f_one {op} {f : Ev} (h : PE X a (tE G f W)) : PE X (.BoolOp op [a] pos) (tE G f W) := pe_one h
theorem f_andV {rest : List Expr} (ha : PE X a (tE G fa W)) (hb : PE X (.BoolOp .And (b :: rest) pos) (tE G fb W)) : PE X (.BoolOp .And (a :: b :: rest) pos) (tE G (eAndV fa fb) W) :=
  PE.imp (pe_and ha hb) fun σ _ Q ⟨us, w, e, m, sl, h⟩ => by
    subst e
    refine ⟨us, w, rfl, m, sl, (Pt.bind h).imp ?_⟩
    rintro c H1 ⟨w1, a, rfl, e1, m1, r1, h1⟩
    cases r1 with
    | bl c =>
      refine ⟨c, rfl, ?_⟩
      cases c with
      | true => exact ⟨us, w1, rfl, m1, sl.up m e1, h1⟩
      | false => exact h1.bl m1
    | _ => exact False.elim h1
theorem f_orV {rest : List Expr} (ha : PE X a (tE G fa W)) (hb : PE X (.BoolOp .Or (b :: rest) pos) (tE G fb W)) : PE X (.BoolOp .Or (a :: b :: rest) pos) (tE G (eOrV fa fb) W) :=
  PE.imp (pe_or ha hb) fun σ _ Q ⟨us, w, e, m, sl, h⟩ => by
    subst e
    refine ⟨us, w, rfl, m, sl, (Pt.bind h).imp ?_⟩
    rintro c H1 ⟨w1, a, rfl, e1, m1, r1, h1⟩
    cases r1 with
    | bl c =>
      refine ⟨c, rfl, ?_⟩
      cases c with
      | false => exact ⟨us, w1, rfl, m1, sl.up m e1, h1⟩
      | true => exact h1.bl m1
    | _ => exact False.elim h1
def eNotV (f : Ev) : Ev := fun us h => (f us h).bind fun u h1 => match u with | .bl c => .ok (.bl (!c)) h1 | _ => .no
theorem f_notV (ha : PE X a (tE G fa W)) : PE X (.UnaryOp .Not a pos) (tE G (eNotV fa) W) :=
  PE.imp (pe_not ha) fun σ _ Q ⟨us, w, e, m, sl, h⟩ => by
    subst e
    refine ⟨us, w, rfl, m, sl, (Pt.bind h).imp ?_⟩
    rintro c H1 ⟨w1, a, rfl, e1, m1, r1, h1⟩
    cases r1 with
    | bl c => exact ⟨c, rfl, h1.bl m1⟩
    | _ => exact False.elim h1
end
/-! ### subscripts, slices -/
def atU {α : Type} (xs : List α) (i : Int) : Option α :=
  match i with
  | .ofNat n => xs[n]?
  | .negSucc n => if Nat.blt n xs.length then xs[xs.length - 1 - n]? else none
theorem atU_eq {α : Type} (xs : List α) (i : Int) : L2.atI xs i = atU xs i := by
  unfold L2.atI L2.ixN atU
  cases i with
  | ofNat n =>
    have h0 : (0 : Int) ≤ Int.ofNat n := Int.natCast_nonneg n
    rw [if_pos h0]
    by_cases h : (Int.ofNat n) < (xs.length : Int)
    · rw [if_pos h]; rfl
    · rw [if_neg h]
      have : xs.length ≤ n := by
        have h' : ¬ ((n : Int) < (xs.length : Int)) := h
        omega
      exact (List.getElem?_eq_none this).symm
  | negSucc n =>
    rw [if_neg (by simp)]
    by_cases h : n < xs.length
    · rw [if_pos (show -(xs.length : Int) ≤ Int.negSucc n by omega)]
      have e : (Int.negSucc n + (xs.length : Int)).toNat = xs.length - 1 - n := by omega
      show xs[(Int.negSucc n + (xs.length : Int)).toNat]? = _
      rw [e]
      have : Nat.blt n xs.length = true := Nat.ble_eq_true_of_le h
      simp [this]
    · rw [if_neg (show ¬ -(xs.length : Int) ≤ Int.negSucc n by omega)]
      have : Nat.blt n xs.length = false := by
        cases q : Nat.blt n xs.length with
        | false => rfl
        | true => exact absurd (Nat.le_of_ble_eq_true q) (by omega)
      simp [this]
def kIx (x y : U) (h : List UO) : Rs U :=
  match y with
  | .int i => match x with
    | .str z => if szOk z.length then (match atU z.cps.toList i with | some c => .ok (.str ⟨#[c]⟩) h | none => .no) else .no
    | x => match seqU h x with
      | some xs => (match atU xs i with | some u => .ok u h | none => .no)
      | none => .no
  | _ => .no
theorem RL.at {G : Cfg} {w : Wd} {us : List U} {vs : List V} {i : Int} {u : U} (l : RL G w us vs) (h : atU us i = some u) : ∃ v, L2.atI vs i = some v ∧ R G w u v := by
  rw [atU_eq]
  unfold atU at h ⊢
  cases i with
  | ofNat n => exact l.get h
  | negSucc n =>
    dsimp only at h ⊢
    rw [← l.length]
    split at h
    · rename_i q
      rw [if_pos q]
      exact l.get h
    · cases h
theorem ok_ix {G : Cfg} : Op2 G (rIx G.K) kIx := by
  intro w σ W x y a b Q m rx ry h
  cases ry with
  | int i =>
    have viaS : ∀ {x : U} {a : V}, R G w x a → Pt G (R G) W σ w (match seqU w.h x with
      | some xs => (match atU xs i with | some u => (.ok u w.h : Rs U) | none => .no)
      | none => .no) Q → rIx G.K a (.int i) w.H Q := by
      intro x a rx h
      split at h
      · rename_i xs q
        split at h
        · rename_i u qu
          obtain ⟨p, vs, rfl, hs, l⟩ := seqU_of m rx q
          obtain ⟨v, hv, rv⟩ := l.at qu
          rcases hs with hs | hs
          · exact .inl ⟨p, vs, i, v, rfl, rfl, hs, hv, h.val m rv⟩
          · exact .inr (.inl ⟨p, vs, i, v, rfl, rfl, hs, hv, h.val m rv⟩)
        · exact h.elim
      · exact h.elim
    cases rx with
    | str z =>
      unfold kIx at h
      dsimp only at h
      split at h
      · rename_i hz
        split at h
        · rename_i c q
          exact .inr (.inr ⟨z, i, c, rfl, rfl, szOk_le hz, by rw [atU_eq]; exact q, h.str m⟩)
        · exact h.elim
      · exact h.elim
    | tup h1 l => exact viaS (.tup h1 l) h
    | fl h1 h2 l => exact viaS (.fl h1 h2 l) h
    | scr h1 => exact viaS (.scr h1) h
    | ref h1 => exact viaS (.ref h1) h
    | non => exact h.elim
    | bl _ => exact h.elim
    | int _ => exact h.elim
    | ty _ => exact h.elim
    | tx _ _ _ => exact h.elim
    | ob _ _ _ _ => exact h.elim
  | _ => exact h.elim
def cutU (xs : List U) (lo hi : Option Int) : List U := (xs.drop (HT.sIx xs.length 0 lo)).take (HT.sIx xs.length xs.length hi - HT.sIx xs.length 0 lo)
def kSl (x : U) (lo hi : Option Int) (h : List UO) : Rs U :=
  match x with
  | .tup xs => .ok (.tup (cutU xs lo hi)) h
  | x => match lstU h x with
    | some xs => .ok (.fl (cutU xs lo hi)) h
    | none => .no
def eSl (f : Ev) (lo hi : EvO) : Ev := fun us h => (f us h).bind fun x h1 => (lo us h1).bind fun a h2 => (hi us h2).bind fun b h3 => kSl x a b h3
def oNo : EvO := fun _ h => .ok none h
def oE (f : Ev) : EvO := fun us h => (f us h).bind fun u h1 => match u with | .int i => .ok (some i) h1 | _ => .no
def rSlB (K : PySem.W.Frag) : V → Option Int → Option Int → Hp → VK → Prop := fun x lo hi H Q => rSlL K x lo hi H Q ∨ rSlA K x lo hi H Q
theorem RL.cut {G : Cfg} {w : Wd} {us : List U} {vs : List V} (l : RL G w us vs) (lo hi : Option Int) : RL G w (cutU us lo hi) (cutV vs lo hi) := by
  unfold cutU cutV
  rw [l.length]
  exact (l.drop _).take _
theorem cut_whole {xs : List U} {lo hi : Option Int} (h : HT.sIx xs.length 0 lo = 0 ∧ HT.sIx xs.length xs.length hi = xs.length) : cutU xs lo hi = xs := by
  unfold cutU
  rw [h.1, h.2]
  simp
section
variable {X : Cx} {G : Cfg} {W : WX} {a b : Expr} {fa fb : Ev} {pos : Pos}
theorem f_ix (hK : X.K = G.K) (ha : PE X a (tE G fa W)) (hb : PE X b (tE G fb W)) (hs : PlainIx b := by exact fun _ _ => rfl) : PE X (.Subscript a b pos) (tE G (e2 kIx fa fb) W) :=
  PE.imp (pe_ix (r := rIx X.K) ix_seq ha hb hs) fun _ _ _ h => two_of (hK ▸ ok_ix) h
theorem fo_no : PO X none (tO G oNo W) := PO.imp po_none fun _ _ _ ⟨us, w, e, m, sl, h⟩ => by
  subst e
  exact h w none rfl (Ext.refl w) m rfl
theorem fo_e (h : PE X a (tE G fa W)) : PO X (some a) (tO G (oE fa) W) := PO.imp (po_some h) fun σ _ Q ⟨us, w, e, m, sl, h⟩ => by
  subst e
  refine ⟨us, w, rfl, m, sl, (Pt.bind h).imp ?_⟩
  rintro x H1 ⟨w1, a, rfl, e1, m1, r1, h1⟩
  cases r1 with
  | int i => exact ⟨i, rfl, h1 w1 (some i) rfl (Ext.refl _) m1 rfl⟩
  | _ => exact False.elim h1
theorem f_sl {lo hi : Option Expr} {fl fh : EvO} {p2 : Pos} (hK : X.K = G.K) (ha : PE X a (tE G fa W)) (hl : PO X lo (tO G fl W)) (hh : PO X hi (tO G fh W)) : PE X (.Subscript a (.Slice lo hi none p2) pos) (tE G (eSl fa fl fh) W) :=
  PE.imp (pe_slice (r := rSlB X.K) (sl_list.or sl_tupA) ha hl hh) fun σ _ Q ⟨us, w, e, m, sl, h⟩ => by
    subst e
    rw [hK]
    refine ⟨us, w, rfl, m, sl, (Pt.bind h).imp ?_⟩
    rintro x H1 ⟨w1, a, rfl, e1, m1, r1, h1⟩
    refine ⟨us, w1, rfl, m1, sl.up m e1, (Pt.bind (Rel := fun _ (a b : Option Int) => a = b) h1).imp ?_⟩
    rintro l H2 ⟨w2, l', rfl, e2, m2, rfl, h2⟩
    refine ⟨us, w2, rfl, m2, (sl.up m e1).up m1 e2, (Pt.bind (Rel := fun _ (a b : Option Int) => a = b) h2).imp ?_⟩
    rintro u H3 ⟨w3, u', rfl, e3, m3, rfl, h3⟩
    have r3 := r1.up m1 (e2.trans e3)
    have viaL : ∀ {a : U} {x : V}, R G w3 a x → Pt G (R G) W σ w3 (match lstU w3.h a with | some xs => (.ok (.fl (cutU xs l' u')) w3.h : Rs U) | none => .no) Q → rSlB G.K x l' u' w3.H Q := by
      intro a x r h
      split at h
      · rename_i xs q
        obtain ⟨p, vs, rfl, hs, l⟩ := lstU_of m3 r q
        exact .inl ⟨p, vs, rfl, hs, fun p hp => h.newF m3 (l.cut _ _) hp⟩
      · exact h.elim
    cases r3 with
    | tup g1 l =>
      refine .inr ⟨_, _, rfl, g1.1, fun hw => ?_, fun _ p hp => h3.newT m3 (l.cut _ _) hp⟩
      rw [← l.length] at hw
      have h3 : Pt G (R G) W σ w3 (.ok (.tup (cutU _ l' u')) w3.h) Q := h3
      rw [cut_whole hw] at h3
      exact h3.val m3 (.tup g1 l)
    | fl g1 g2 l => exact viaL (.fl g1 g2 l) h3
    | scr g1 => exact viaL (.scr g1) h3
    | ref g1 => exact viaL (.ref g1) h3
    | non => exact False.elim h3
    | bl _ => exact False.elim h3
    | int _ => exact False.elim h3
    | str _ => exact False.elim h3
    | ty _ => exact False.elim h3
    | tx _ _ _ => exact False.elim h3
    | ob _ _ _ _ => exact False.elim h3
end
end Fn
namespace Fn
open PySem L2
/-! ### lists of ints -/
def toInts : List U → Option (List Int)
  | [] => some []
  | .int i :: r => (match toInts r with | some ns => some (i :: ns) | none => none)
  | _ => none
theorem toInts_of {G : Cfg} {w : Wd} : ∀ {us : List U} {vs : List V} {ns : List Int}, RL G w us vs → toInts us = some ns → vs = ns.map V.int ∧ us = ns.map U.int
  | _, _, _, .nil, e => by cases e; exact ⟨rfl, rfl⟩
  | _, _, ns, .cons r t, e => by
    cases r with
    | int i =>
      unfold toInts at e
      split at e
      · rename_i ms q
        cases e
        obtain ⟨h1, h2⟩ := toInts_of t q
        exact ⟨by rw [h1]; rfl, by rw [h2]; rfl⟩
      · cases e
    | _ => cases e
def maxI : Int → List Int → Int
  | m, [] => m
  | m, x :: r => maxI (if decide (m < x) then x else m) r
def minI : Int → List Int → Int
  | m, [] => m
  | m, x :: r => minI (if decide (x < m) then x else m) r
theorem maxI_spec : ∀ (r : List Int) (m : Int), maxI m r ∈ m :: r ∧ ∀ y ∈ m :: r, y ≤ maxI m r
  | [], m => by simp [maxI]
  | x :: r, m => by
    obtain ⟨h1, h2⟩ := maxI_spec r (if decide (m < x) then x else m)
    unfold maxI
    refine ⟨?_, fun y hy => ?_⟩
    · rcases List.mem_cons.mp h1 with e | e
      · rw [e]; split <;> simp
      · exact List.mem_cons_of_mem _ (List.mem_cons_of_mem _ e)
    · have h3 := h2 _ List.mem_cons_self
      have hm : m ≤ maxI (if decide (m < x) then x else m) r ∧ x ≤ maxI (if decide (m < x) then x else m) r := by
        by_cases q : m < x
        · simp only [q, decide_true, if_true] at h3 ⊢; omega
        · simp only [q, decide_false, Bool.false_eq_true, if_false] at h3 ⊢; omega
      rcases List.mem_cons.mp hy with e | e
      · rw [e]; exact hm.1
      · rcases List.mem_cons.mp e with e | e
        · rw [e]; exact hm.2
        · exact h2 _ (List.mem_cons_of_mem _ e)
theorem minI_spec : ∀ (r : List Int) (m : Int), minI m r ∈ m :: r ∧ ∀ y ∈ m :: r, minI m r ≤ y
  | [], m => by simp [minI]
  | x :: r, m => by
    obtain ⟨h1, h2⟩ := minI_spec r (if decide (x < m) then x else m)
    unfold minI
    refine ⟨?_, fun y hy => ?_⟩
    · rcases List.mem_cons.mp h1 with e | e
      · rw [e]; split <;> simp
      · exact List.mem_cons_of_mem _ (List.mem_cons_of_mem _ e)
    · have h3 := h2 _ List.mem_cons_self
      have hm : minI (if decide (x < m) then x else m) r ≤ m ∧ minI (if decide (x < m) then x else m) r ≤ x := by
        by_cases q : x < m
        · simp only [q, decide_true, if_true] at h3 ⊢; omega
        · simp only [q, decide_false, Bool.false_eq_true, if_false] at h3 ⊢; omega
      rcases List.mem_cons.mp hy with e | e
      · rw [e]; exact hm.1
      · rcases List.mem_cons.mp e with e | e
        · rw [e]; exact hm.2
        · exact h2 _ (List.mem_cons_of_mem _ e)
def insI (x : Int) : List Int → List Int
  | [] => [x]
  | y :: r => if decide (x ≤ y) then x :: y :: r else y :: insI x r
def sortI : List Int → List Int
  | [] => []
  | x :: r => insI x (sortI r)
theorem insI_perm (x : Int) : ∀ l : List Int, (insI x l).Perm (x :: l)
  | [] => .refl _
  | y :: r => by
    unfold insI
    split
    · exact .refl _
    · exact ((insI_perm x r).cons y).trans (.swap x y r)
theorem insI_sorted (x : Int) : ∀ l : List Int, l.Pairwise (· ≤ ·) → (insI x l).Pairwise (· ≤ ·)
  | [], _ => by simp [insI]
  | y :: r, h => by
    unfold insI
    rw [List.pairwise_cons] at h
    split
    · rename_i q
      have q := of_decide_eq_true q
      refine List.pairwise_cons.mpr ⟨fun z hz => ?_, List.pairwise_cons.mpr h⟩
      rcases List.mem_cons.mp hz with e | e
      · omega
      · exact Int.le_trans q (h.1 z e)
    · rename_i q
      have q : ¬ x ≤ y := fun z => q (decide_eq_true z)
      refine List.pairwise_cons.mpr ⟨fun z hz => ?_, insI_sorted x r h.2⟩
      rcases List.mem_cons.mp ((insI_perm x r).mem_iff.mp hz) with e | e
      · omega
      · exact h.1 z e
theorem sortI_perm : ∀ l : List Int, (sortI l).Perm l
  | [] => .refl _
  | x :: r => (insI_perm x _).trans ((sortI_perm r).cons x)
theorem sortI_sorted : ∀ l : List Int, (sortI l).Pairwise (· ≤ ·)
  | [] => .nil
  | x :: r => insI_sorted x _ (sortI_sorted r)
theorem sortI_one {a l : List Int} (hp : a.Perm l) (ha : a.Pairwise (· ≤ ·)) : a = sortI l :=
  List.Perm.eq_of_pairwise (fun _ _ _ _ h1 h2 => Int.le_antisymm h1 h2) ha (sortI_sorted l) (hp.trans (sortI_perm l).symm)
theorem sortI_rev {a l : List Int} (hp : a.Perm l) (ha : a.Pairwise (· ≥ ·)) : a = (sortI l).reverse := by
  have h1 : a.reverse.Pairwise (· ≤ ·) := List.pairwise_reverse.mpr ha
  have h2 := sortI_one ((List.reverse_perm a).trans hp) h1
  rw [← h2, List.reverse_reverse]
/-! ### built-ins by name -/
def OpC (G : Cfg) (r : List V → Hp → VK → Prop) (k : List U → List UO → Rs U) : Prop := ∀ (w : Wd) (σ : L2.St) (W : WX) (xs : List U) (vs : List V) (Q : VK), Sm G w → RL G w xs vs → Pt G (R G) W σ w (k xs w.h) Q → r vs w.H Q
def eCall (k : List U → List UO → Rs U) (fa : EvA) : Ev := fun us h => (fa us h).bind k
section
variable {X : Cx} {G : Cfg} {W : WX} {e : Expr} {es : List Expr} {fa : EvA} {pos p : Pos} {x : Str} {r : List V → Hp → VK → Prop} {k : List U → List UO → Rs U}
theorem callC_of {σ : L2.St} {H : Hp} {Q : VK} (hk : OpC G r k) (h : tE G (eCall k fa) W σ H Q) : tA G fa W σ H fun vs H1 => r vs H1 Q := by
  obtain ⟨us, w, rfl, m, sl, h⟩ := h
  refine ⟨us, w, rfl, m, sl, (Pt.bind h).imp ?_⟩
  rintro vs H1 ⟨w1, a, rfl, e1, m1, r1, h1⟩
  exact hk w1 σ W a vs Q m1 r1 h1
theorem f_callB {id : String} (hc : CallR X (.builtin id) r) (hk : OpC G r k) (hg : Gl X x) (hm : X.mg x = none) (hv : bootBuiltins x = some (.builtin id)) (ha : PA X (e :: es) (tA G fa W)) (hn : x ≠ "__name__" := by decide) (hdb : (x == ("__debug__" : Str)) = false := by decide)
    (he : starEach (e :: es) X.env = (false, eval e X.env) :: starEach es X.env := by rfl) (hpl : (backTo pos (starEach es X.env)).any (·.1) = false := by rfl) : PE X (.Call (.Name x p) (e :: es) [] pos) (tE G (eCall k fa) W) :=
  PE.imp (pe_callB hc hg hm hv ha hn hdb he hpl) fun _ _ _ h => callC_of hk h
theorem f_callTy {T : String} (hc : CallR X (.type T) r) (hk : OpC G r k) (hg : Gl X x) (hm : X.mg x = none) (hv : bootBuiltins x = some (.type T)) (ha : PA X (e :: es) (tA G fa W)) (hn : x ≠ "__name__" := by decide) (hdb : (x == ("__debug__" : Str)) = false := by decide)
    (he : starEach (e :: es) X.env = (false, eval e X.env) :: starEach es X.env := by rfl) (hpl : (backTo pos (starEach es X.env)).any (·.1) = false := by rfl) : PE X (.Call (.Name x p) (e :: es) [] pos) (tE G (eCall k fa) W) :=
  PE.imp (pe_callTy hc hg hm hv ha hn hdb he hpl) fun _ _ _ h => callC_of hk h
end
/-- len -/
def kLen (xs : List U) (h : List UO) : Rs U := match xs with
  | [.str z] => if szOk z.length then .ok (.int (z.length : Nat)) h else .no
  | [.ref i] => (match h[i]? with | some (.lst xs) => .ok (.int (xs.length : Nat)) h | some (.dk kvs) => .ok (.int (kvs.length : Nat)) h | _ => .no)
  | [u] => (match seqU h u with | some xs => .ok (.int (xs.length : Nat)) h | none => .no)
  | _ => .no
def rLen (K : PySem.W.Frag) : List V → Hp → VK → Prop := fun xs H Q => (∃ p ys, xs = [.ref p] ∧ (SqL K H p ys ∨ SqT K H p ys) ∧ Q (.int ys.length) H) ∨ (∃ z, xs = [.str z] ∧ z.length ≤ sizeLine ∧ Q (.int z.length) H) ∨
  ∃ a kvs, xs = [V.ref a] ∧ H a = some (HO.dK kvs) ∧ Q (V.int kvs.length) H
theorem or_len {X : Cx} : CallR X (.builtin "len") (rLen X.K) := call_len_seq.or (call_len_str.or call_lenD)
theorem ok_len {G : Cfg} : OpC G (rLen G.K) kLen := by
  intro w σ W xs vs Q m l h
  cases l with
  | nil => exact h.elim
  | cons r t =>
    cases t with
    | cons _ _ =>
      unfold kLen at h
      split at h <;> first | exact h.elim | (rename_i q; cases q)
    | nil =>
      have viaS : ∀ {x : U} {a : V}, R G w x a → Pt G (R G) W σ w (match seqU w.h x with | some xs => (.ok (.int (xs.length : Nat)) w.h : Rs U) | none => .no) Q → rLen G.K [a] w.H Q := by
        intro x a rx h
        split at h
        · rename_i xs q
          obtain ⟨p, vs, rfl, hs, l⟩ := seqU_of m rx q
          exact .inl ⟨p, vs, rfl, hs, by rw [← l.length]; exact h.int m⟩
        · exact h.elim
      cases r with
      | str z =>
        unfold kLen at h
        dsimp only at h
        split at h
        · rename_i hz
          exact .inr (.inl ⟨z, rfl, szOk_le hz, h.int m⟩)
        · exact h.elim
      | tup h1 l => exact viaS (.tup h1 l) h
      | fl h1 h2 l => exact viaS (.fl h1 h2 l) h
      | scr h1 => exact viaS (.scr h1) h
      | @ref i a h1 =>
        unfold kLen at h
        dsimp only at h
        split at h
        · rename_i xs q
          cases m.obj _ _ _ h1 q with
          | lst h2 l => exact .inl ⟨_, _, rfl, .inl (.inl (.inl h2)), by rw [← l.length]; exact h.int m⟩
        · rename_i kvs q
          cases m.obj _ _ _ h1 q with
          | dk h2 l =>
            refine .inr (.inr ⟨_, _, rfl, h2, ?_⟩)
            rw [List.length_zip, List.length_map, ← l.length, List.length_map, Nat.min_self]
            exact h.int m
        · exact h.elim
      | non => exact h.elim
      | bl _ => exact h.elim
      | int _ => exact h.elim
      | ty _ => exact h.elim
      | tx _ _ _ => exact h.elim
      | ob _ _ _ _ => exact h.elim
/-- abs, int, bool -/
def kAbs (xs : List U) (h : List UO) : Rs U := match xs with | [.int i] => .ok (.int (if decide (i < 0) then -i else i)) h | _ => .no
theorem ok_abs {G : Cfg} : OpC G (fun xs H Q => ∃ i, xs = [.int i] ∧ Q (.int (if i < 0 then -i else i)) H) kAbs := by
  intro w σ W xs vs Q m l h
  unfold kAbs at h
  split at h
  · rename_i i
    cases l with
    | cons r t => cases t; cases r; refine ⟨i, rfl, ?_⟩; have h := h.int m; simpa using h
  · exact h.elim
def kInt (xs : List U) (h : List UO) : Rs U := match xs with | [.int i] => .ok (.int i) h | [.bl b] => .ok (.int (match b with | true => 1 | false => 0)) h | _ => .no
theorem ok_int {G : Cfg} : OpC G (fun xs H Q => (∃ i, xs = [.int i] ∧ Q (.int i) H) ∨ ∃ k, xs = [.bl k] ∧ Q (.int (if k then 1 else 0)) H) kInt := by
  intro w σ W xs vs Q m l h
  unfold kInt at h
  split at h
  · rename_i i
    cases l with
    | cons r t => cases t; cases r; exact .inl ⟨i, rfl, h.int m⟩
  · rename_i b
    cases l with
    | cons r t => cases t; cases r; refine .inr ⟨b, rfl, ?_⟩; have h := h.int m; cases b <;> exact h
  · exact h.elim
/-- max, min: two ints, or a list of ints -/
def kMax (xs : List U) (h : List UO) : Rs U := match xs with
  | [.int i, .int j] => .ok (.int (if decide (j > i) then j else i)) h
  | [u] => (match lstU h u with | some xs => (match toInts xs with | some (n :: ns) => .ok (.int (maxI n ns)) h | _ => .no) | none => .no)
  | _ => .no
def kMin (xs : List U) (h : List UO) : Rs U := match xs with
  | [.int i, .int j] => .ok (.int (if decide (j < i) then j else i)) h
  | [u] => (match lstU h u with | some xs => (match toInts xs with | some (n :: ns) => .ok (.int (minI n ns)) h | _ => .no) | none => .no)
  | _ => .no
def rMax2 (K : PySem.W.Frag) : List V → Hp → VK → Prop := fun xs H Q => (∃ i j, xs = [.int i, .int j] ∧ Q (.int (if j > i then j else i)) H) ∨ rMax K xs H Q
def rMin2 (K : PySem.W.Frag) : List V → Hp → VK → Prop := fun xs H Q => (∃ i j, xs = [.int i, .int j] ∧ Q (.int (if j < i then j else i)) H) ∨ rMin K xs H Q
theorem or_max {X : Cx} (hc : X.calm = true) : CallR X (.builtin "max") (rMax2 X.K) := (call_max2 hc).or (cr_max hc)
theorem or_min {X : Cx} (hc : X.calm = true) : CallR X (.builtin "min") (rMin2 X.K) := (call_min2 hc).or (cr_min hc)
theorem ok_max {G : Cfg} : OpC G (rMax2 G.K) kMax := by
  intro w σ W xs vs Q m l h
  unfold kMax at h
  split at h
  · rename_i i j
    cases l with
    | cons r t => cases t with | cons r2 t2 => cases t2; cases r; cases r2; refine .inl ⟨i, j, rfl, ?_⟩; have h := h.int m; simpa using h
  · rename_i u
    split at h
    · rename_i ys q
      split at h
      · rename_i n ns q2
        cases l with
        | cons r t =>
          cases t
          obtain ⟨p, vs, rfl, hs, l⟩ := lstU_of m r q
          obtain ⟨rfl, _⟩ := toInts_of l q2
          refine .inr ⟨p, n :: ns, rfl, hs, by simp, fun z hz hle => ?_⟩
          obtain ⟨h1, h2⟩ := maxI_spec ns n
          have e : z = maxI n ns := Int.le_antisymm (h2 z hz) (hle _ h1)
          rw [e]
          exact h.int m
      · exact h.elim
    · exact h.elim
  · exact h.elim
theorem ok_min {G : Cfg} : OpC G (rMin2 G.K) kMin := by
  intro w σ W xs vs Q m l h
  unfold kMin at h
  split at h
  · rename_i i j
    cases l with
    | cons r t => cases t with | cons r2 t2 => cases t2; cases r; cases r2; refine .inl ⟨i, j, rfl, ?_⟩; have h := h.int m; simpa using h
  · rename_i u
    split at h
    · rename_i ys q
      split at h
      · rename_i n ns q2
        cases l with
        | cons r t =>
          cases t
          obtain ⟨p, vs, rfl, hs, l⟩ := lstU_of m r q
          obtain ⟨rfl, _⟩ := toInts_of l q2
          refine .inr ⟨p, n :: ns, rfl, hs, by simp, fun z hz hle => ?_⟩
          obtain ⟨h1, h2⟩ := minI_spec ns n
          have e : z = minI n ns := Int.le_antisymm (hle _ h1) (h2 z hz)
          rw [e]
          exact h.int m
      · exact h.elim
    · exact h.elim
  · exact h.elim
/-- sum of a list of ints -/
def sumI : List Int → Int
  | [] => 0
  | x :: r => x + sumI r
theorem sumI_eq : ∀ l : List Int, sumI l = l.sum
  | [] => rfl
  | x :: r => by rw [sumI, sumI_eq r, List.sum_cons]
def kSum (xs : List U) (h : List UO) : Rs U := match xs with
  | [u] => (match lstU h u with | some xs => (match toInts xs with | some ns => .ok (.int (sumI ns)) h | _ => .no) | none => .no)
  | _ => .no
theorem ok_sum {G : Cfg} : OpC G (rSum G.K) kSum := by
  intro w σ W xs vs Q m l h
  unfold kSum at h
  split at h
  · rename_i u
    split at h
    · rename_i ys q
      split at h
      · rename_i ns q2
        cases l with
        | cons r t =>
          cases t
          obtain ⟨p, vs, rfl, hs, l⟩ := lstU_of m r q
          obtain ⟨rfl, _⟩ := toInts_of l q2
          refine ⟨p, ns, rfl, hs, ?_⟩
          rw [← sumI_eq]
          exact h.int m
      · exact h.elim
    · exact h.elim
  · exact h.elim
/-- sorted of a list of ints -/
def kSorted (xs : List U) (h : List UO) : Rs U := match xs with
  | [u] => (match lstU h u with | some xs => (match toInts xs with | some ns => (match Nat.blt ns.length 64 with | true => .ok (.fl ((sortI ns).map .int)) h | false => .no) | _ => .no) | none => .no)
  | _ => .no
theorem ok_sorted {G : Cfg} : OpC G (rSorted G.K) kSorted := by
  intro w σ W xs vs Q m l h
  unfold kSorted at h
  split at h
  · rename_i u
    split at h
    · rename_i ys q
      split at h
      · rename_i ns q2
        split at h
        · rename_i q3
          cases l with
          | cons r t =>
            cases t
            obtain ⟨p, vs, rfl, hs, l⟩ := lstU_of m r q
            obtain ⟨rfl, _⟩ := toInts_of l q2
            refine ⟨p, ns, rfl, hs, Nat.le_of_ble_eq_true q3, fun ns' p h1 h2 hp => ?_⟩
            rw [sortI_one h1 h2]
            exact h.newF m RL.ints hp
        · exact h.elim
      · exact h.elim
    · exact h.elim
  · exact h.elim
/-- tuple(x), list(x) -/
def kTupC (xs : List U) (h : List UO) : Rs U := match xs with
  | [.tup xs] => .ok (.tup xs) h
  | [u] => (match lstU h u with | some xs => .ok (.tup xs) h | none => .no)
  | _ => .no
theorem ok_tupC {G : Cfg} : OpC G (fun xs H Q => ∃ p ys, xs = [.ref p] ∧ ((SqL G.K H p ys ∧ ∀ l, H l = none → Q (.ref l) (upd H l (.tup ys))) ∨ (SqT G.K H p ys ∧ Q (.ref p) H))) kTupC := by
  intro w σ W xs vs Q m l h
  unfold kTupC at h
  split at h
  · rename_i ys
    cases l with
    | cons r t =>
      cases t
      cases r with
      | tup h1 l => exact ⟨_, _, rfl, .inr ⟨h1.1, h.val m (.tup h1 l)⟩⟩
  · rename_i u _
    split at h
    · rename_i ys q
      cases l with
      | cons r t =>
        cases t
        obtain ⟨p, vs, rfl, hs, l⟩ := lstU_of m r q
        exact ⟨p, vs, rfl, .inl ⟨hs, fun p hp => h.newT m l hp⟩⟩
    · exact h.elim
  · exact h.elim
def eListOf (fa : EvA) : EvL := fun us h => (fa us h).bind fun xs h1 => match xs with
  | [u] => (match seqU h1 u with | some ys => .ok ys h1 | none => .no)
  | _ => .no
section
variable {X : Cx} {G : Cfg} {W : WX} {e : Expr} {es : List Expr} {fa : EvA} {pos p : Pos} {x : Str} {k : Nat}
theorem f_len (hK : X.K = G.K) (hg : Gl X "len") (hm : X.mg "len" = none) (ha : PA X [e] (tA G fa W)) (he : starEach [e] X.env = (false, eval e X.env) :: starEach [] X.env := by rfl) : PE X (.Call (.Name "len" p) [e] [] pos) (tE G (eCall kLen fa) W) :=
  f_callB (r := rLen X.K) or_len (hK ▸ ok_len) hg hm PySem.boot_len ha (he := he)
theorem f_abs (hg : Gl X "abs") (hm : X.mg "abs" = none) (ha : PA X [e] (tA G fa W)) (he : starEach [e] X.env = (false, eval e X.env) :: starEach [] X.env := by rfl) : PE X (.Call (.Name "abs" p) [e] [] pos) (tE G (eCall kAbs fa) W) :=
  f_callB call_abs ok_abs hg hm (by decide +kernel) ha (he := he)
theorem f_intc (hg : Gl X "int") (hm : X.mg "int" = none) (ha : PA X [e] (tA G fa W)) (he : starEach [e] X.env = (false, eval e X.env) :: starEach [] X.env := by rfl) : PE X (.Call (.Name "int" p) [e] [] pos) (tE G (eCall kInt fa) W) :=
  f_callTy call_int1 ok_int hg hm (by decide +kernel) ha (he := he)
theorem f_max {e : Expr} (hK : X.K = G.K) (hc : X.calm = true) (hg : Gl X "max") (hm : X.mg "max" = none) (ha : PA X (e :: es) (tA G fa W)) (he : starEach (e :: es) X.env = (false, eval e X.env) :: starEach es X.env := by rfl) (hpl : (backTo pos (starEach es X.env)).any (·.1) = false := by rfl) : PE X (.Call (.Name "max" p) (e :: es) [] pos) (tE G (eCall kMax fa) W) :=
  f_callB (r := rMax2 X.K) (or_max hc) (hK ▸ ok_max) hg hm (by decide +kernel) ha (he := he) (hpl := hpl)
theorem f_min {e : Expr} (hK : X.K = G.K) (hc : X.calm = true) (hg : Gl X "min") (hm : X.mg "min" = none) (ha : PA X (e :: es) (tA G fa W)) (he : starEach (e :: es) X.env = (false, eval e X.env) :: starEach es X.env := by rfl) (hpl : (backTo pos (starEach es X.env)).any (·.1) = false := by rfl) : PE X (.Call (.Name "min" p) (e :: es) [] pos) (tE G (eCall kMin fa) W) :=
  f_callB (r := rMin2 X.K) (or_min hc) (hK ▸ ok_min) hg hm (by decide +kernel) ha (he := he) (hpl := hpl)
theorem f_sum (hK : X.K = G.K) (hc : X.calm = true) (hg : Gl X "sum") (hm : X.mg "sum" = none) (ha : PA X [e] (tA G fa W)) (he : starEach [e] X.env = (false, eval e X.env) :: starEach [] X.env := by rfl) : PE X (.Call (.Name "sum" p) [e] [] pos) (tE G (eCall kSum fa) W) :=
  f_callB (r := rSum X.K) (cr_sum hc) (hK ▸ ok_sum) hg hm (by decide +kernel) ha (he := he)
theorem f_sorted (hK : X.K = G.K) (hg : Gl X "sorted") (hm : X.mg "sorted" = none) (ha : PA X [e] (tA G fa W)) (he : starEach [e] X.env = (false, eval e X.env) :: starEach [] X.env := by rfl) : PE X (.Call (.Name "sorted" p) [e] [] pos) (tE G (eCall kSorted fa) W) :=
  f_callB (r := rSorted X.K) cr_sorted (hK ▸ ok_sorted) hg hm (by decide +kernel) ha (he := he)
theorem f_tupc (hK : X.K = G.K) (hg : Gl X "tuple") (hm : X.mg "tuple" = none) (ha : PA X [e] (tA G fa W)) (he : starEach [e] X.env = (false, eval e X.env) :: starEach [] X.env := by rfl) : PE X (.Call (.Name "tuple" p) [e] [] pos) (tE G (eCall kTupC fa) W) :=
  f_callTy (r := fun xs H Q => ∃ p ys, xs = [.ref p] ∧ ((SqL X.K H p ys ∧ ∀ l, H l = none → Q (.ref l) (upd H l (.tup ys))) ∨ (SqT X.K H p ys ∧ Q (.ref p) H))) call_tuple_of (hK ▸ ok_tupC) hg hm (by decide +kernel) ha (he := he)
theorem f_listc (hK : X.K = G.K) (hg : Gl X "list") (hm : X.mg "list" = none) (ha : PA X [e] (tA G fa W)) (he : starEach [e] X.env = (false, eval e X.env) :: starEach [] X.env := by rfl) : PE X (.Call (.Name "list" p) [e] [] pos) (tN G (eListOf fa) W) :=
  PE.imp (pe_callTy call_list_of hg hm (by decide +kernel) ha (he := he)) fun σ _ Q ⟨us, w, e, m, sl, h⟩ => by
    subst e
    refine ⟨us, w, rfl, m, sl, (PtN.bind h).imp ?_⟩
    rintro vs H1 ⟨w1, xs, rfl, e1, m1, r1, h1⟩
    split at h1
    · rename_i u
      split at h1
      · rename_i ys q
        cases r1 with
        | cons r t =>
          cases t
          obtain ⟨p, vs, rfl, hs, l⟩ := seqU_of m1 r q
          exact ⟨p, vs, rfl, by rw [hK]; exact hs, fun p hp => newL e1 m1 l rfl h1 hp⟩
      · exact h1.elim
    · exact h1.elim
/-- list(range(..)), tuple(range(..)) -/
def rgU (a b : Int) : List U := (List.range (b - a).toNat).map fun i => U.int (a + (i : Nat))
def rgOk (a b : Int) : Bool := Nat.ble a.natAbs 1000000000 && Nat.ble b.natAbs 1000000000 && szOk (b - a).toNat
theorem rgOk_ok {a b : Int} (h : rgOk a b = true) : RgOk a b := by
  unfold rgOk at h
  rw [Bool.and_eq_true, Bool.and_eq_true] at h
  have h1 : a.natAbs ≤ 1000000000 := Nat.le_of_ble_eq_true h.1.1
  have h2 : b.natAbs ≤ 1000000000 := Nat.le_of_ble_eq_true h.1.2
  have h3 := Nat.le_of_ble_eq_true h.2
  unfold RgOk
  have e1 : (2 : Int) ^ 62 = 4611686018427387904 := by decide
  have e2 : (2 : Nat) ^ 24 = 16777216 := by decide
  omega
theorem rl_rg {w : Wd} (a b : Int) : RL G w (rgU a b) (L2.rgV a b) := by
  have e1 : rgU a b = ((List.range (b - a).toNat).map fun i => a + ((i : Nat) : Int)).map U.int := by simp [rgU]
  have e2 : L2.rgV a b = ((List.range (b - a).toNat).map fun i => a + ((i : Nat) : Int)).map V.int := by simp [L2.rgV]
  rw [e1, e2]
  exact RL.ints
def eRg (fa : EvA) : EvL := fun us h => (fa us h).bind fun xs h1 => match xs with
  | [.int n] => (match rgOk 0 n with | true => .ok (rgU 0 n) h1 | false => .no)
  | [.int a, .int b] => (match rgOk a b with | true => .ok (rgU a b) h1 | false => .no)
  | _ => .no
/-- range(..) as an argument: its bounds -/
abbrev EvR := Lo → List UO → Rs (Int × Int)
def tR (G : Cfg) (f : EvR) (W : WX) : L2.St → Hp → (Int → Int → Hp → Prop) → Prop := fun σ H Q => tX G (fun _ (a b : Int × Int) => a = b) f W σ H fun p H1 => Q p.1 p.2 H1
def eRg1 (fa : Ev) : EvR := fun us h => (fa us h).bind fun u h1 => match u with | .int n => .ok (0, n) h1 | _ => .no
def eRg2 (fa fb : Ev) : EvR := fun us h => (fa us h).bind fun u h1 => (fb us h1).bind fun v h2 => match u, v with | .int a, .int b => .ok (a, b) h2 | _, _ => .no
theorem PRg.imp {e : Expr} {t t' : L2.St → Hp → (Int → Int → Hp → Prop) → Prop} (h : PRg X e t) (i : ∀ σ H Q, t' σ H Q → t σ H Q) : PRg X e t' := fun pins s σ H Q I q => h pins s σ H Q I (i σ H Q q)
theorem fr_1 {a : Expr} {f : Ev} (hg : Gl X "range") (hm : X.mg "range" = none) (ha : PE X a (tE G f W)) (na : starEach [a] X.env = (false, eval a X.env) :: starEach [] X.env := by rfl) : PRg X (.Call (.Name "range" p) [a] [] pos) (tR G (eRg1 f) W) :=
  PRg.imp (prg_1 hg hm ha na) fun σ _ Q ⟨us, w, e, m, sl, h⟩ => by
    subst e
    refine ⟨us, w, rfl, m, sl, (Pt.bind (Rel := R G) h).imp ?_⟩
    rintro v H1 ⟨w1, u, rfl, e1, m1, r1, h1⟩
    cases r1 with
    | int n => exact ⟨n, rfl, h1 w1 (0, n) rfl (Ext.refl _) m1 rfl⟩
    | _ => exact False.elim h1
theorem fr_2 {a b : Expr} {f g : Ev} (hg : Gl X "range") (hm : X.mg "range" = none) (ha : PE X a (tE G f W)) (hb : PE X b (tE G g W)) (na : starEach [a, b] X.env = (false, eval a X.env) :: starEach [b] X.env := by rfl)
    (nb : starEach [b] X.env = (false, eval b X.env) :: starEach [] X.env := by rfl) (hp : (backTo pos (starEach [b] X.env)).any (·.1) = false := by rfl) : PRg X (.Call (.Name "range" p) [a, b] [] pos) (tR G (eRg2 f g) W) :=
  PRg.imp (prg_2 hg hm ha hb na nb hp) fun σ _ Q ⟨us, w, e, m, sl, h⟩ => by
    subst e
    refine ⟨us, w, rfl, m, sl, (Pt.bind (Rel := R G) h).imp ?_⟩
    rintro v H1 ⟨w1, u, rfl, e1, m1, r1, h1⟩
    refine ⟨us, w1, rfl, m1, sl.up m e1, (Pt.bind (Rel := R G) h1).imp ?_⟩
    rintro v' H2 ⟨w2, u', rfl, e2, m2, r2, h2⟩
    have r1 := r1.up m1 e2
    cases r1 with
    | int a =>
      cases r2 with
      | int b => exact ⟨a, b, rfl, rfl, h2 w2 (a, b) rfl (Ext.refl _) m2 rfl⟩
      | _ => exact False.elim h2
    | _ => exact False.elim h2
def eLRg (f : EvR) : EvL := fun us h => (f us h).bind fun p h1 => match rgOk p.1 p.2 with | true => .ok (rgU p.1 p.2) h1 | false => .no
def eTRg (f : EvR) : Ev := fun us h => (f us h).bind fun p h1 => match rgOk p.1 p.2 with | true => .ok (.tup (rgU p.1 p.2)) h1 | false => .no
theorem f_listrg {f : EvR} (hc : X.calm = true) (hg : Gl X "list") (hm : X.mg "list" = none) (he : PRg X e (tR G f W)) (na : starEach [e] X.env = (false, eval e X.env) :: starEach [] X.env := by rfl) : PE X (.Call (.Name "list" p) [e] [] pos) (tN G (eLRg f) W) :=
  PE.imp (pe_listRg hc hg hm he na) fun σ _ Q ⟨us, w, e, m, sl, h⟩ => by
    subst e
    refine ⟨us, w, rfl, m, sl, (PtN.bind (Rel := fun _ (a b : Int × Int) => a = b) h).imp ?_⟩
    rintro v H1 ⟨w1, u, rfl, e1, m1, rfl, h1⟩
    split at h1
    · rename_i q
      exact ⟨rgOk_ok q, fun q hq => newL e1 m1 (rl_rg _ _) rfl h1 hq⟩
    · exact h1.elim
theorem f_tuprg {f : EvR} (hc : X.calm = true) (hg : Gl X "tuple") (hm : X.mg "tuple" = none) (he : PRg X e (tR G f W)) (na : starEach [e] X.env = (false, eval e X.env) :: starEach [] X.env := by rfl) : PE X (.Call (.Name "tuple" p) [e] [] pos) (tE G (eTRg f) W) :=
  PE.imp (pe_tupRg hc hg hm he na) fun σ _ Q ⟨us, w, e, m, sl, h⟩ => by
    subst e
    refine ⟨us, w, rfl, m, sl, (Pt.bind (Rel := fun _ (a b : Int × Int) => a = b) h).imp ?_⟩
    rintro v H1 ⟨w1, u, rfl, e1, m1, rfl, h1⟩
    split at h1
    · rename_i q
      exact ⟨rgOk_ok q, fun q hq => h1.newT m1 (rl_rg _ _) hq⟩
    · exact h1.elim
end
/-! ### max(x, default=d), min(x, default=d) of ints -/
section
open PySem.W PyProof.Rows
theorem alike_ints (ns : List Int) : AlikeAll (ns.map PyData.int) := by
  refine ⟨fun x hx y hy => ?_, fun x hx => ?_⟩
  · obtain ⟨i, _, rfl⟩ := List.mem_map.mp hx
    obtain ⟨j, _, rfl⟩ := List.mem_map.mp hy
    simp [alike]
  · obtain ⟨i, _, rfl⟩ := List.mem_map.mp hx
    exact fun z => nomatch z
theorem reads_ints {h : Heap} : ∀ {us : List Value} {ns : List Int}, IntsAre us ns → ∃ as, ReadsAll h us (ns.map PyData.int) as := by
  intro us ns hi
  have := Vals.ints (us := us) (ns := ns)
  clear this
  have hv := vals_of_ints hi
  clear hi
  induction ns generalizing us with
  | nil => cases hv; exact ⟨_, .nil⟩
  | cons n r ih =>
    cases hv with
    | cons r1 t =>
      obtain ⟨tk, rfl⟩ := r1
      obtain ⟨as, q⟩ := ih t
      exact ⟨_, .cons (.int n tk) q⟩
def rMaxD (K : PySem.W.Frag) : List V → List V → Hp → VK → Prop := fun vs zs H Q => ∃ (a : Addr) (ns : List Int) (d : Int), vs = [V.ref a] ∧ zs = [.int d] ∧ (SqL K H a (ns.map V.int) ∨ SqT K H a (ns.map V.int)) ∧ Q (.int (match ns with | [] => d | n :: r => r.foldl max n)) H
def rMinD (K : PySem.W.Frag) : List V → List V → Hp → VK → Prop := fun vs zs H Q => ∃ (a : Addr) (ns : List Int) (d : Int), vs = [V.ref a] ∧ zs = [.int d] ∧ (SqL K H a (ns.map V.int) ∨ SqT K H a (ns.map V.int)) ∧ Q (.int (match ns with | [] => d | n :: r => r.foldl min n)) H
theorem depth_ints : ∀ ns : List Int, PyData.depthAll (ns.map PyData.int) = 0
  | [] => by simp [PyData.depthAll]
  | n :: r => by simp [PyData.depthAll, PyData.depth, depth_ints r]
theorem cr_maxD {X : Cx} {k : Nat} (hr : Room k X.A) : CallRK X (.builtin "max") [Str.ofString "default"] (rMaxD X.K) := by
  intro pins s σ H vs zs us ws Q I r rz h
  obtain ⟨a, ns, d, rfl, rfl, hs, q⟩ := h
  obtain rfl := Vals.ref1 r
  obtain ⟨w1, rfl, ⟨td, rfl⟩⟩ := vals1 rz
  rcases hs with hs | hs
  · obtain ⟨its, rv, hl, hz⟩ := I.list hs
    obtain ⟨as, hrd⟩ := reads_ints (h := s.heap) rv.ints
    have hu := hr.units
    refine max_list_default hr.hd hl.isList (by simpa using hrd) (alike_ints ns) (by rw [depth_ints]; omega) (fun e h' tk hk => ?_) (fun y ys i v h' tk bs e hv hrd' hk => ?_)
    · cases ns with
      | cons _ _ => cases e
      | nil => exact ⟨.int d, H, I.kept (t' := tk) hk, ⟨td, rfl⟩, q⟩
    · cases ns with
      | nil => cases e
      | cons n r =>
        rw [List.map_cons] at e
        injection e with e1 e2
        subst e1 e2
        rw [maxD_ints] at hrd'
        cases hrd' with
        | int _ t => exact ⟨.int (r.foldl max n), H, I.kept (t' := tk) hk, ⟨t, rfl⟩, q⟩
  · obtain ⟨its, rv, hl, hz⟩ := I.tuple hs
    obtain ⟨as, hrd⟩ := reads_ints (h := s.heap) rv.ints
    have hu := hr.units
    refine max_tuple_default hr.hd hl (by simpa using hrd) (alike_ints ns) (by rw [depth_ints]; omega) (fun e h' tk hk => ?_) (fun y ys i v h' tk bs e hv hrd' hk => ?_)
    · cases ns with
      | cons _ _ => cases e
      | nil => exact ⟨.int d, H, I.kept (t' := tk) hk, ⟨td, rfl⟩, q⟩
    · cases ns with
      | nil => cases e
      | cons n r =>
        rw [List.map_cons] at e
        injection e with e1 e2
        subst e1 e2
        rw [maxD_ints] at hrd'
        cases hrd' with
        | int _ t => exact ⟨.int (r.foldl max n), H, I.kept (t' := tk) hk, ⟨t, rfl⟩, q⟩
theorem cr_minD {X : Cx} {k : Nat} (hr : Room k X.A) : CallRK X (.builtin "min") [Str.ofString "default"] (rMinD X.K) := by
  intro pins s σ H vs zs us ws Q I r rz h
  obtain ⟨a, ns, d, rfl, rfl, hs, q⟩ := h
  obtain rfl := Vals.ref1 r
  obtain ⟨w1, rfl, ⟨td, rfl⟩⟩ := vals1 rz
  rcases hs with hs | hs
  · obtain ⟨its, rv, hl, hz⟩ := I.list hs
    obtain ⟨as, hrd⟩ := reads_ints (h := s.heap) rv.ints
    have hu := hr.units
    refine min_list_default hr.hd hl.isList (by simpa using hrd) (alike_ints ns) (by rw [depth_ints]; omega) (fun e h' tk hk => ?_) (fun y ys i v h' tk bs e hv hrd' hk => ?_)
    · cases ns with
      | cons _ _ => cases e
      | nil => exact ⟨.int d, H, I.kept (t' := tk) hk, ⟨td, rfl⟩, q⟩
    · cases ns with
      | nil => cases e
      | cons n r =>
        rw [List.map_cons] at e
        injection e with e1 e2
        subst e1 e2
        rw [minD_ints] at hrd'
        cases hrd' with
        | int _ t => exact ⟨.int (r.foldl min n), H, I.kept (t' := tk) hk, ⟨t, rfl⟩, q⟩
  · obtain ⟨its, rv, hl, hz⟩ := I.tuple hs
    obtain ⟨as, hrd⟩ := reads_ints (h := s.heap) rv.ints
    have hu := hr.units
    refine min_tuple_default hr.hd hl (by simpa using hrd) (alike_ints ns) (by rw [depth_ints]; omega) (fun e h' tk hk => ?_) (fun y ys i v h' tk bs e hv hrd' hk => ?_)
    · cases ns with
      | cons _ _ => cases e
      | nil => exact ⟨.int d, H, I.kept (t' := tk) hk, ⟨td, rfl⟩, q⟩
    · cases ns with
      | nil => cases e
      | cons n r =>
        rw [List.map_cons] at e
        injection e with e1 e2
        subst e1 e2
        rw [minD_ints] at hrd'
        cases hrd' with
        | int _ t => exact ⟨.int (r.foldl min n), H, I.kept (t' := tk) hk, ⟨t, rfl⟩, q⟩
end
theorem fold_maxI : ∀ (r : List Int) (m : Int), r.foldl max m = maxI m r
  | [], _ => rfl
  | x :: r, m => by
    rw [List.foldl_cons, maxI, fold_maxI r]
    congr 1
    by_cases q : m < x
    · simp only [q, decide_true, if_true]; omega
    · simp only [q, decide_false, Bool.false_eq_true, if_false]; omega
theorem fold_minI : ∀ (r : List Int) (m : Int), r.foldl min m = minI m r
  | [], _ => rfl
  | x :: r, m => by
    rw [List.foldl_cons, minI, fold_minI r]
    congr 1
    by_cases q : x < m
    · simp only [q, decide_true, if_true]; omega
    · simp only [q, decide_false, Bool.false_eq_true, if_false]; omega
def kMaxD (x d : U) (h : List UO) : Rs U := match d with
  | .int d => (match seqU h x with | some xs => (match toInts xs with | some ns => .ok (.int (match ns with | [] => d | n :: r => maxI n r)) h | none => .no) | none => .no)
  | _ => .no
def kMinD (x d : U) (h : List UO) : Rs U := match d with
  | .int d => (match seqU h x with | some xs => (match toInts xs with | some ns => .ok (.int (match ns with | [] => d | n :: r => minI n r)) h | none => .no) | none => .no)
  | _ => .no
section
variable {X : Cx} {G : Cfg} {W : WX} {a b : Expr} {fa fb : Ev} {pos p kp : Pos} {k : Nat}
theorem PK.imp {X : Cx} {e : List Keyword} {t t' : TA} (h : PK X e t) (i : ∀ σ H Q, t' σ H Q → t σ H Q) : PK X e t' := ⟨fun pos pins s σ H Q I q => h.run pos pins s σ H Q I (i σ H Q q)⟩
theorem f_maxD (hK : X.K = G.K) (hr : Room k X.A) (hg : Gl X "max") (hm : X.mg "max" = none) (ha : PE X a (tE G fa W)) (hb : PE X b (tE G fb W))
    (na : starEach [a] X.env = (false, eval a X.env) :: starEach [] X.env := by rfl) (he : backTo pos (starEach [a] X.env) = (false, eval a X.env) :: backTo pos (starEach [] X.env) := by rfl) (hpl : (backTo pos (starEach [a] X.env)).any (·.1) = false := by rfl)
    (hall : (backToKw pos (keywordEach [⟨some "default", b, kp⟩] X.env)).all (·.1.isSome) = true := by rfl) (hnone : (backToKw pos (keywordEach [⟨some "default", b, kp⟩] X.env)).any (·.1.isNone) = false := by rfl) (hks : (backToKw pos (keywordEach [⟨some "default", b, kp⟩] X.env)).filterMap (·.1) = [Str.ofString "default"] := by rfl) :
    PE X (.Call (.Name "max" p) [a] [⟨some "default", b, kp⟩] pos) (tE G (e2 kMaxD fa fb) W) :=
  PE.imp (pe_callBK (r := rMaxD X.K) (cr_maxD hr) hg hm (by decide +kernel) (pa_cons ha pa_nil na) (pk_cons hb pk_nil) (he := he) (hpl := hpl) (hall := hall) (hnone := hnone) (hks := hks)) fun σ H Q h => by
    refine two_of (r := fun x y H Q => rMaxD X.K [x] [y] H Q) ?_ h
    intro w σ W x y va vb Q m rx ry h
    unfold kMaxD at h
    split at h
    · rename_i d
      cases ry
      split at h
      · rename_i xs q
        split at h
        · rename_i ns q2
          obtain ⟨p, vs, rfl, hs, l⟩ := seqU_of m rx q
          obtain ⟨rfl, _⟩ := toInts_of l q2
          refine ⟨p, ns, d, rfl, rfl, by rw [hK]; exact hs, ?_⟩
          cases ns with
          | nil => exact h.int m
          | cons n r =>
            dsimp only
            rw [fold_maxI]
            exact h.int m
        · exact h.elim
      · exact h.elim
    · exact h.elim
theorem f_minD (hK : X.K = G.K) (hr : Room k X.A) (hg : Gl X "min") (hm : X.mg "min" = none) (ha : PE X a (tE G fa W)) (hb : PE X b (tE G fb W))
    (na : starEach [a] X.env = (false, eval a X.env) :: starEach [] X.env := by rfl) (he : backTo pos (starEach [a] X.env) = (false, eval a X.env) :: backTo pos (starEach [] X.env) := by rfl) (hpl : (backTo pos (starEach [a] X.env)).any (·.1) = false := by rfl)
    (hall : (backToKw pos (keywordEach [⟨some "default", b, kp⟩] X.env)).all (·.1.isSome) = true := by rfl) (hnone : (backToKw pos (keywordEach [⟨some "default", b, kp⟩] X.env)).any (·.1.isNone) = false := by rfl) (hks : (backToKw pos (keywordEach [⟨some "default", b, kp⟩] X.env)).filterMap (·.1) = [Str.ofString "default"] := by rfl) :
    PE X (.Call (.Name "min" p) [a] [⟨some "default", b, kp⟩] pos) (tE G (e2 kMinD fa fb) W) :=
  PE.imp (pe_callBK (r := rMinD X.K) (cr_minD hr) hg hm (by decide +kernel) (pa_cons ha pa_nil na) (pk_cons hb pk_nil) (he := he) (hpl := hpl) (hall := hall) (hnone := hnone) (hks := hks)) fun σ H Q h => by
    refine two_of (r := fun x y H Q => rMinD X.K [x] [y] H Q) ?_ h
    intro w σ W x y va vb Q m rx ry h
    unfold kMinD at h
    split at h
    · rename_i d
      cases ry
      split at h
      · rename_i xs q
        split at h
        · rename_i ns q2
          obtain ⟨p, vs, rfl, hs, l⟩ := seqU_of m rx q
          obtain ⟨rfl, _⟩ := toInts_of l q2
          refine ⟨p, ns, d, rfl, rfl, by rw [hK]; exact hs, ?_⟩
          cases ns with
          | nil => exact h.int m
          | cons n r =>
            dsimp only
            rw [fold_minI]
            exact h.int m
        · exact h.elim
      · exact h.elim
    · exact h.elim
end
/-! ### isinstance of a built-in class -/
inductive Cty where
  | int | bool | tup | lst | str | dict
def Cty.name : Cty → String
  | .int => "int" | .bool => "bool" | .tup => "tuple" | .lst => "list" | .str => "str" | .dict => "dict"
def isiN : Cty → Bool | _ => false
def isiB : Cty → Bool | .int => true | .bool => true | _ => false
def isiI : Cty → Bool | .int => true | _ => false
def isiS : Cty → Bool | .str => true | _ => false
def isiT : Cty → Bool | .tup => true | _ => false
def isiL : Cty → Bool | .lst => true | _ => false
def isiD : Cty → Bool | .dict => true | _ => false
theorem kitN (c : Cty) : L2.kitB "NoneType" c.name = some (isiN c) := by cases c <;> decide +kernel
theorem kitBo (c : Cty) : L2.kitB "bool" c.name = some (isiB c) := by cases c <;> decide +kernel
theorem kitI (c : Cty) : L2.kitB "int" c.name = some (isiI c) := by cases c <;> decide +kernel
theorem kitS (c : Cty) : L2.kitB "str" c.name = some (isiS c) := by cases c <;> decide +kernel
theorem kitT (c : Cty) : L2.kitB "tuple" c.name = some (isiT c) := by cases c <;> decide +kernel
theorem kitL (c : Cty) : L2.kitB "list" c.name = some (isiL c) := by cases c <;> decide +kernel
theorem kitD (c : Cty) : L2.kitB "dict" c.name = some (isiD c) := by cases c <;> decide +kernel
def kIsi (c : Cty) (x : U) (h : List UO) : Rs U := match x with
  | .int _ => .ok (.bl (isiI c)) h
  | .bl _ => .ok (.bl (isiB c)) h
  | .tup _ => .ok (.bl (isiT c)) h
  | .non => .ok (.bl (isiN c)) h
  | .str _ => .ok (.bl (isiS c)) h
  | .fl _ => .ok (.bl (isiL c)) h
  | .ref i => (match h[i]? with | some (.lst _) => .ok (.bl (isiL c)) h | some (.dk _) => .ok (.bl (isiD c)) h | some (.dt _) => .ok (.bl (isiD c)) h | _ => .no)
  | _ => .no
section
variable {X : Cx} {G : Cfg} {W : WX} {a b : Expr} {fa fb : Ev} {pos p p2 : Pos} {k : Nat}
theorem f_isi (c : Cty) {T : Str} (hK : X.K = G.K) (hg : Gl X "isinstance") (hm : X.mg "isinstance" = none) (hgT : Gl X T) (hmT : X.mg T = none) (hvT : bootBuiltins T = some (.type c.name)) (ha : PE X a (tE G fa W))
    (hn : T ≠ "__name__" := by decide) (hd : (T == ("__debug__" : Str)) = false := by decide)
    (na : starEach [a, .Name T p2] X.env = (false, eval a X.env) :: starEach [.Name T p2] X.env := by rfl) (nb : starEach [.Name T p2] X.env = (false, eval (.Name T p2) X.env) :: starEach [] X.env := by rfl) (hpl : (backTo pos (starEach [.Name T p2] X.env)).any (·.1) = false := by rfl) :
    PE X (.Call (.Name "isinstance" p) [a, .Name T p2] [] pos) (tE G (e1 (kIsi c) fa) W) :=
  PE.imp (pe_callB (call_isi (X := X)) hg hm (by decide +kernel) (pa_cons ha (pa_cons (pe_bltn (v := .ty c.name) hgT hmT hvT rfl hn hd) pa_nil nb) na) (he := na) (hpl := hpl)) fun σ _ Q ⟨us, w, e, m, sl, h⟩ => by
    subst e
    refine ⟨us, w, rfl, m, sl, (Pt.bind h).imp ?_⟩
    rintro v H1 ⟨w1, u, rfl, e1, m1, r1, h1⟩
    rw [hK]
    have go : ∀ {t : String} {b : Bool}, TyX G.K w1.H v (.type t) → L2.kitB t c.name = some b → Q (.bl b) w1.H → rIsi G.K [v, .ty c.name] w1.H Q := fun {t b} ht hk q => ⟨v, _, _, _, b, rfl, .ty _, ht, kit_ty hk, q⟩
    cases r1 with
    | non => exact go (.base .non) (kitN c) (h1.bl m1)
    | bl x => exact go (.base (.bl x)) (kitBo c) (h1.bl m1)
    | int x => exact go (.base (.int x)) (kitI c) (h1.bl m1)
    | str x => exact go (.base (.str x)) (kitS c) (h1.bl m1)
    | tup g1 l =>
      refine go ?_ (kitT c) (h1.bl m1)
      rcases g1 with (g1 | ⟨o, g1⟩) | ⟨o, its, n, g1, g2, _⟩
      · exact .base (.tup g1)
      · exact .fTuple g1
      · exact .kTuple g1 g2
    | fl g1 g2 l => exact go (.base (.lst g1)) (kitL c) (h1.bl m1)
    | @ref i a g1 =>
      unfold kIsi at h1
      dsimp only at h1
      split at h1
      · rename_i xs q
        cases m1.obj _ _ _ g1 q with
        | lst g2 l => exact go (.base (.lst g2)) (kitL c) (h1.bl m1)
      · rename_i xs q
        cases m1.obj _ _ _ g1 q with
        | dk g2 l => exact go (.base (.dK g2)) (kitD c) (h1.bl m1)
      · rename_i xs q
        cases m1.obj _ _ _ g1 q with
        | dt g2 l => exact go (.base (.dT g2)) (kitD c) (h1.bl m1)
      · exact h1.elim
    | scr _ => exact False.elim h1
    | ty _ => exact False.elim h1
    | tx _ _ _ => exact False.elim h1
    | ob _ _ _ _ => exact False.elim h1
end
end Fn
/-! enumerate of a list or a tuple, with a start or without: for HandS's loops -/
namespace Fn
open PySem L2 PySem.Spec PyProof.Rows
theorem meets_enum1 {v : Value} {o : Obj} {H : Heap → Prop} (B : Begins v o H) :
    Meets (Builtin.«enumerate.__new__» ⟨[.type "enumerate", v], []⟩) (fun _ R s => H s.heap ∧
      R (.ok (.ret (.ref (s.heap.push o).objs.size))) { s with heap := (s.heap.push o).push { cls := .type "enumerate", data := .fields #[.none, .bool false, .ref s.heap.objs.size, rawInt 0, .none, .none] } }) :=
  .of_wp fun prog w A R s h => by
    obtain ⟨hp, g, d, tk, os⟩ := s; obtain ⟨h1, h⟩ := h
    have hsub := sub_enumerate
    have q1 : ∀ {A' : Around} {E : Value → Shared → Prop} {Q : Value → Shared → Prop}, Q (.ref hp.objs.size) ⟨hp.push o, g, d, tk, os⟩ → wpAny (model prog w) A' (pyIter v) Q E ⟨hp, g, d, tk, os⟩ :=
      fun q => B.iter prog w _ _ ⟨hp, g, d, tk, os⟩ _ h1 q
    wp_walk using q1
    refine wpAny_stack_any fun st => wpAny_pure ?_
    split
    · rename_i c _ _ _ _ _
      cases (c == Value.type "enumerate")
      · wp_walk using q1
        exact ⟨_, rfl, h⟩
      · wp_walk using q1
        exact ⟨_, rfl, h⟩
    · wp_walk using q1
      exact ⟨_, rfl, h⟩
theorem enum_begins1 {prog : Program} {w : World} {A : Around} {E : Value → Shared → Prop} {s : Shared} {v : Value} {o : Obj} {H : Heap → Prop} {Q : Value → Shared → Prop} (B : Begins v o H) (h1 : H s.heap)
    (h : ∀ h', IsEnum h' (s.heap.objs.size + 1) s.heap.objs.size 0 .none → h'.get? s.heap.objs.size = some o → h'.objs.size = s.heap.objs.size + 2 →
      (∀ b o, s.heap.get? b = some o → h'.get? b = some o) → Q (.ref (s.heap.objs.size + 1)) { s with heap := h' }) :
    wpAny (model prog w) A (call (.type "enumerate") [v]) Q E s := by
  refine callType_new F.called_enumerate (by decide) (F.typeCall_enumerate_1 _) (F.newCall_enumerate_1 _) (fun obj => F.args_object_init_2 obj _) F.entry_enumerate_new
    (meets_enum1 B) ⟨h1, ?_⟩
  have hz : (s.heap.push o).objs.size = s.heap.objs.size + 1 := Heap.size_push ..
  show _ ∧ _
  rw [hz]
  have he : IsEnum ((s.heap.push o).push { cls := .type "enumerate", data := .fields #[.none, .bool false, .ref s.heap.objs.size, rawInt 0, .none, .none] }) (s.heap.objs.size + 1) s.heap.objs.size 0 .none := by
    have := Heap.get?_push_size (s.heap.push o) (o := { cls := .type "enumerate", data := .fields #[.none, .bool false, .ref s.heap.objs.size, rawInt 0, .none, .none] }) rfl
    rw [hz] at this; exact this
  refine ⟨⟨_, he, rfl⟩, h _ he (Heap.get?_push_of_some _ (Heap.get?_push_size _ B.free)) (by rw [Heap.size_push, hz]) fun b o x => Heap.get?_push_of_some _ (Heap.get?_push_of_some _ x)⟩
/-- enumerate from c of what S tells at each turn -/
def Iten (S : Hp → List V → Prop) (c : Int) : It :=
  ⟨fun i H => ∃ (xs : List V) (x : V), S H xs ∧ xs[i]? = some x, fun i H v H' => ∃ T x, v = .ref T ∧ H T = none ∧ H' = upd H T (.tup [.int (c + (i : Nat)), x]) ∧ ∀ xs, S H xs → xs[i]? = some x, fun i H => ∃ xs : List V, S H xs ∧ xs.length ≤ i⟩
/-- the shared part of both turns -/
theorem enum_item {X : Cx} {S : Hp → List V → Prop} {c : Int} {a e it : Addr} {i : Nat} {pins : List (Addr × Obj)} {s : Shared} {σ : L2.St} {H : Hp} {E : Value → Shared → Prop} {elts : List Expr} {kk : Nat} {tpos : Pos}
    {tn : Nat → Heap → Prop} {P : Nat → Value → Prop} {St : Nat → Heap → Prop} {n : Nat} {x : V} {old : Value}
    (I : Inv X pins σ H s) (hf : ∀ b ∈ [e, it], FpOk X pins H b) (D : Draws X.prog X.w X.A.in1 it [it, a] n P St) (he : IsEnum s.heap e it (c + (i : Nat)) old) (hst : St i s.heap) (hlt : i < n) (hne : e ≠ it) (hea : e ≠ a)
    (hP : ∀ u, P i u → RelV x u) (hS : ∀ xs, S H xs → xs[i]? = some x) (hil : it < s.heap.objs.size) (al : a < s.heap.objs.size)
    (hk : ∀ h', (∃ old, IsEnum h' e it (c + ((i + 1 : Nat) : Int)) old) → St (i + 1) h' → tn (i + 1) h') :
    wpAny (model X.prog X.w) X.A (pyNext (.ref e)) (fun r s1 => ∃ u, r = some u ∧
      wpAny (model X.prog X.w) X.A (letOwnedTupleGo (.Tuple elts kk tpos) (.ref e) u) (fun _ s2 => ∃ x H', Inv X pins σ H' s2 ∧ RelV x u ∧ (Iten S c).yld i H x H' ∧ tn (i + 1) s2.heap ∧ ∀ b ∈ [e, it], H' b = none) E s1) E s := by
  have hel : e < s.heap.objs.size := Heap.lt_size he
  refine wpAny_pyNext_enum_itemC D he hst hlt hne (by simp [hne, hea]) fun u h' tk hPu ho hst' hT hsz hkp => ?_
  have ru := hP u hPu
  refine ⟨_, rfl, wpAny_letOwnedTupleGo_enum (s := { s with heap := h', toks := tk + 1 }) ho fun h'' he' sb => ?_⟩
  have hT2 : h''.get? s.heap.objs.size = some { cls := .type "tuple", data := .seq #[.int (c + (i : Nat)) tk, u] } := (sb.2 _ (Nat.ne_of_gt hel)).trans hT
  have new : ObjOk X.prog X.w (upd H s.heap.objs.size (.tup [.int (c + (i : Nat)), x])) h'' s.heap.objs.size (.tup [.int (c + (i : Nat)), x]) :=
    ⟨by show 2 ≤ sizeLine; decide, [.int (c + (i : Nat)) tk, u], .cons ⟨_, rfl⟩ (.cons ru .nil), ⟨_, hT2, rfl, _, rfl⟩⟩
  have I1 : Inv X pins σ (upd H s.heap.objs.size (.tup [.int (c + (i : Nat)), x])) { s with heap := h'', toks := tk + 1 } :=
    I.turnedNew (ch := [e, it]) (fun b ob hb q => (sb.2 b (fun z => hb (by simp [z]))).trans (hkp b ob (fun z => hb (by simp [z])) (fun z => hb (by simp [z])) q)) hf (Nat.le_refl _) new
  refine ⟨.ref s.heap.objs.size, _, I1, rfl, ⟨_, x, rfl, I.hok.fresh (Nat.le_refl _), rfl, hS⟩, hk _ ⟨u, ?_⟩ (D.frame _ _ _ hst' fun b hb o q => (sb.2 b (fun z => ?_)).trans q), fun b hb => ?_⟩
  · have e1 : c + ((i + 1 : Nat) : Int) = c + (i : Nat) + 1 := by omega
    rw [e1]; exact he'
  · rw [z] at hb
    simp only [List.mem_cons, List.not_mem_nil, or_false] at hb
    exact hb.elim hne hea
  · have hb' : b < s.heap.objs.size := by
      have e' : b = e ∨ b = it := by simpa using hb
      rcases e' with z | z
      · rw [z]; exact hel
      · rw [z]; exact hil
    rw [upd_ne (Nat.ne_of_lt hb')]
    exact (hf b hb).1
theorem turn_enL {P : Program} {w : World} {K : PySem.W.Frag} {elts : List Expr} {kk : Nat} {tpos : Pos} (c : Int) (a e it : Addr) :
    Turn P w K (.Tuple elts kk tpos) (Iten (fun H xs => SqL K H a xs) c) [e, it] e (fun i h => (∃ old, IsEnum h e it (c + (i : Nat)) old) ∧ h.IsListIter it a i ∧ e ≠ it ∧ e ≠ a ∧ a ≠ it) where
  mem := by simp
  obj := fun i h st b hb => by
    obtain ⟨⟨old, he⟩, ⟨o, ho, hc, hd⟩, _⟩ := st
    have e' : b = e ∨ b = it := by simpa using hb
    rcases e' with z | z
    · rw [z]; exact ⟨_, he, fun v q => nomatch q⟩
    · rw [z]; exact ⟨o, ho, fun v q => by rw [hd] at q; cases q⟩
  keep := fun i h h' st k => let ⟨⟨old, he⟩, hi, hne⟩ := st; ⟨⟨old, k e (by simp) _ he⟩, hi.at fun o q => k it (by simp) o q, hne⟩
  item := by
    intro X hP hw hK hc i pins s σ H E I hf st hg
    subst hP hw hK
    obtain ⟨⟨old, he⟩, hit, hne, hea, hai⟩ := st
    obtain ⟨xs, x, hq, hx⟩ := hg
    obtain ⟨its, rv, p, hz⟩ := I.list hq
    obtain ⟨u, hu, ru⟩ := rv.get hx
    have hil : it < s.heap.objs.size := by obtain ⟨_, q, _⟩ := hit; exact Heap.lt_size q
    have hlt : i < its.toArray.size := by simpa using (List.getElem?_eq_some_iff.mp hu).1
    refine enum_item (S := fun H xs => SqL X.K H a xs) (tn := fun i h => (∃ old, IsEnum h e it (c + (i : Nat)) old) ∧ h.IsListIter it a i ∧ e ≠ it ∧ e ≠ a ∧ a ≠ it) I hf (Draws.list (A := X.A.in1) (I.ok.hd hc) it a hai its.toArray) he ⟨hit, p.isList⟩ hlt hne hea (x := x) (fun u' hu' => ?_) (fun ys hy => by rw [I.list_inj hy hq]; exact hx) hil p.lt (fun h' h1 h2 => ⟨h1, h2.1, hne, hea, hai⟩)
    have : u = u' := by
      have hu' : its.toArray[i]? = some u' := hu'
      simp at hu'
      rw [hu] at hu'
      exact Option.some.inj hu'
    exact this ▸ ru
  done := by
    intro X hP hw hK hc i pins s σ H E I hf st hg
    subst hP hw hK
    obtain ⟨⟨old, he⟩, hit, hne, hea, hai⟩ := st
    obtain ⟨xs, hq, hx⟩ := hg
    obtain ⟨its, rv, p, hz⟩ := I.list hq
    obtain ⟨f0, f1, f2, f3, f4, f5⟩ := hf it (by simp)
    have hl := rv.length
    have hT : s.TypeIs (.ref e) "enumerate" := ⟨_, he, rfl⟩
    unfold pyNext
    refine wpAny_bind (wpAny_attempt (wpAny_callSpecial?_slot (name := Str.ofString "__next__") hT F.slot_enumerate_next
      (wpAny_call_entry F.slot_enumerate_next hT F.entry_enumerate_next ?_ (F.args_enumerate_next_1 _))))
    show wpAny _ _ (field (.ref e) 2 >>= _) _ _ _
    refine wpAny_bind (wpAny_field he rfl (x := .ref it) rfl ?_)
    refine wpAny_bind (wpAny_nextOf_list_end (A := X.A.in1) (I.ok.hd hc) hit p.isList (by simp; omega) fun h' x he' hx' => ?_)
    obtain ⟨o, ho, hc'⟩ := hx'
    refine wpAny_bind (wpAny_isInstance (T := "StopIteration") (b := true) ⟨o, ho, hc'⟩ isSubtype_stop ?_)
    exact wpAny_pure ⟨rfl, I.turned (t' := s.toks) (fun b o hb q => he' b o hb q) f0 f1 f3 f4 f5⟩
  self := fun A i s Q E st h => let ⟨⟨_, he⟩, _⟩ := st; wpAny_pyIter_enum he h
theorem turn_enT {P : Program} {w : World} {K : PySem.W.Frag} {elts : List Expr} {kk : Nat} {tpos : Pos} (c : Int) (a e it : Addr) :
    Turn P w K (.Tuple elts kk tpos) (Iten (fun H xs => SqT K H a xs) c) [e, it] e (fun i h => (∃ old, IsEnum h e it (c + (i : Nat)) old) ∧ h.IsTupleIter it a i ∧ e ≠ it ∧ e ≠ a ∧ a ≠ it) where
  mem := by simp
  obj := fun i h st b hb => by
    obtain ⟨⟨old, he⟩, ⟨o, ho, hc, hd⟩, _⟩ := st
    have e' : b = e ∨ b = it := by simpa using hb
    rcases e' with z | z
    · rw [z]; exact ⟨_, he, fun v q => nomatch q⟩
    · rw [z]; exact ⟨o, ho, fun v q => by rw [hd] at q; cases q⟩
  keep := fun i h h' st k => let ⟨⟨old, he⟩, hi, hne⟩ := st; ⟨⟨old, k e (by simp) _ he⟩, hi.at fun o q => k it (by simp) o q, hne⟩
  item := by
    intro X hP hw hK hc i pins s σ H E I hf st hg
    subst hP hw hK
    obtain ⟨⟨old, he⟩, hit, hne, hea, hai⟩ := st
    obtain ⟨xs, x, hq, hx⟩ := hg
    obtain ⟨its, rv, p, hz⟩ := I.tuple hq
    obtain ⟨u, hu, ru⟩ := rv.get hx
    have hil : it < s.heap.objs.size := by obtain ⟨_, q, _⟩ := hit; exact Heap.lt_size q
    have hlt : i < its.toArray.size := by simpa using (List.getElem?_eq_some_iff.mp hu).1
    refine enum_item (S := fun H xs => SqT X.K H a xs) (tn := fun i h => (∃ old, IsEnum h e it (c + (i : Nat)) old) ∧ h.IsTupleIter it a i ∧ e ≠ it ∧ e ≠ a ∧ a ≠ it) I hf (Draws.tuple (A := X.A.in1) (I.ok.hd hc) it a hai its.toArray) he ⟨hit, p⟩ hlt hne hea (x := x) (fun u' hu' => ?_) (fun ys hy => by rw [I.tuple_inj hy hq]; exact hx) hil p.lt (fun h' h1 h2 => ⟨h1, h2.1, hne, hea, hai⟩)
    have : u = u' := by
      have hu' : its.toArray[i]? = some u' := hu'
      simp at hu'
      rw [hu] at hu'
      exact Option.some.inj hu'
    exact this ▸ ru
  done := by
    intro X hP hw hK hc i pins s σ H E I hf st hg
    subst hP hw hK
    obtain ⟨⟨old, he⟩, hit, hne, hea, hai⟩ := st
    obtain ⟨xs, hq, hx⟩ := hg
    obtain ⟨its, rv, p, hz⟩ := I.tuple hq
    obtain ⟨f0, f1, f2, f3, f4, f5⟩ := hf it (by simp)
    have hl := rv.length
    have hT : s.TypeIs (.ref e) "enumerate" := ⟨_, he, rfl⟩
    unfold pyNext
    refine wpAny_bind (wpAny_attempt (wpAny_callSpecial?_slot (name := Str.ofString "__next__") hT F.slot_enumerate_next
      (wpAny_call_entry F.slot_enumerate_next hT F.entry_enumerate_next ?_ (F.args_enumerate_next_1 _))))
    show wpAny _ _ (field (.ref e) 2 >>= _) _ _ _
    refine wpAny_bind (wpAny_field he rfl (x := .ref it) rfl ?_)
    refine wpAny_bind (wpAny_nextOf_tuple_end (A := X.A.in1) (I.ok.hd hc) hit p (by simp; omega) fun h' x he' hx' => ?_)
    obtain ⟨o, ho, hc'⟩ := hx'
    refine wpAny_bind (wpAny_isInstance (T := "StopIteration") (b := true) ⟨o, ho, hc'⟩ isSubtype_stop ?_)
    exact wpAny_pure ⟨rfl, I.turned (t' := s.toks) (fun b o hb q => he' b o hb q) f0 f1 f3 f4 f5⟩
  self := fun A i s Q E st h => let ⟨⟨_, he⟩, _⟩ := st; wpAny_pyIter_enum he h
/-- what an enumerate goes over -/
def iEnA (K : PySem.W.Frag) (ta : TA) : TI := fun σ H R => ta σ H fun vs H1 => ∃ (a : Addr) (xs : List V) (c : Int), (vs = [.ref a] ∧ c = 0 ∨ (vs = [.ref a, .int c] ∧ -(2 ^ 63) ≤ c ∧ c < 2 ^ 63)) ∧
  ((SqL K H1 a xs ∧ R (Iten (fun H xs => SqL K H a xs) c) H1) ∨ (SqT K H1 a xs ∧ R (Iten (fun H xs => SqT K H a xs) c) H1))
theorem enum_end {X : Cx} {pins : List (Addr × Obj)} {σ : L2.St} {H1 : Hp} {s1 : Shared} {a : Addr} {c : Int} {xs : List V} {R : It → Hp → Prop} {elts : List Expr} {kk : Nat} {tpos : Pos} {h' : Heap} {o : Obj} {E : Value → Shared → Prop} (I1 : Inv X pins σ H1 s1)
    (hk : ∀ b o, s1.heap.get? b = some o → h'.get? b = some o) (he : IsEnum h' (s1.heap.objs.size + 1) s1.heap.objs.size c .none) (al : a < s1.heap.objs.size)
    (q : (h'.IsListIter s1.heap.objs.size a 0 ∧ R (Iten (fun H xs => SqL X.K H a xs) c) H1) ∨ (h'.IsTupleIter s1.heap.objs.size a 0 ∧ R (Iten (fun H xs => SqT X.K H a xs) c) H1)) :
    wpAny (model X.prog X.w) X.A (pyIter (.ref (s1.heap.objs.size + 1))) (PIE X pins σ (.Tuple elts kk tpos) R) E { s1 with heap := h' } := by
  have I2 : Inv X pins σ H1 { s1 with heap := h' } := I1.kept (t' := s1.toks) hk
  have hle : ∀ b ∈ [s1.heap.objs.size + 1, s1.heap.objs.size], FpOk X pins H1 b := fun b hb => by
    have e' : b = s1.heap.objs.size + 1 ∨ b = s1.heap.objs.size := by simpa using hb
    have hle : s1.heap.objs.size ≤ b := by
      rcases e' with z | z
      · rw [z]; exact Nat.le_add_right _ _
      · rw [z]; exact Nat.le_refl _
    exact I1.fpOk hle (I1.hok.fresh hle)
  have c0 : c + ((0 : Nat) : Int) = c := by simp
  refine wpAny_pyIter_enum he ?_
  rcases q with ⟨hit, q⟩ | ⟨hit, q⟩
  · exact ⟨s1.heap.objs.size + 1, [s1.heap.objs.size + 1, s1.heap.objs.size], _, _, H1, rfl, I2, turn_enL c a (s1.heap.objs.size + 1) s1.heap.objs.size, ⟨⟨.none, by rw [c0]; exact he⟩, hit, Nat.succ_ne_self _, (Nat.ne_of_gt (Nat.lt_succ_of_lt al)), (Nat.ne_of_lt al)⟩, hle, q⟩
  · exact ⟨s1.heap.objs.size + 1, [s1.heap.objs.size + 1, s1.heap.objs.size], _, _, H1, rfl, I2, turn_enT c a (s1.heap.objs.size + 1) s1.heap.objs.size, ⟨⟨.none, by rw [c0]; exact he⟩, hit, Nat.succ_ne_self _, (Nat.ne_of_gt (Nat.lt_succ_of_lt al)), (Nat.ne_of_lt al)⟩, hle, q⟩
theorem pi_enumA {X : Cx} {e : Expr} {es : List Expr} {ta : TA} {p pos tpos : Pos} {elts : List Expr} {kk : Nat} (hg : Gl X "enumerate") (hm : X.mg "enumerate" = none) (ha : PA X (e :: es) ta)
    (hs : starEach (e :: es) X.env = (false, eval e X.env) :: starEach es X.env := by rfl) (hpl : (backTo pos (starEach es X.env)).any (·.1) = false := by rfl) :
    PI X (.Tuple elts kk tpos) (.Call (.Name "enumerate" p) (e :: es) [] pos) (iEnA X.K ta) := by
  refine ⟨fun pins s σ H R I h => ?_⟩
  refine Call_ (ld_blt I hg hm boot_enumerate (PyProof.Rows.callWith_type1 (thn (ha.run pos pins s σ H _ I h) fun us s1 ⟨vs, H1, I1, r1, q1⟩ => ?_) hs hpl))
  obtain ⟨a, xs, c, ex, q⟩ := q1
  have iterAt : ∀ {h' : Heap}, (h'.get? s1.heap.objs.size = some { cls := .type "list_iterator", data := .fields #[.ref a, .int 0 0] } → h'.IsListIter s1.heap.objs.size a 0) ∧
      (h'.get? s1.heap.objs.size = some { cls := .type "tuple_iterator", data := .fields #[.ref a, .int 0 0] } → h'.IsTupleIter s1.heap.objs.size a 0) := fun {h'} => ⟨fun q => ⟨_, q, rfl, rfl⟩, fun q => ⟨_, q, rfl, rfl⟩⟩
  rcases ex with ⟨rfl, rfl⟩ | ⟨rfl, hc0, hc1⟩
  · cases r1 with
    | cons r rr =>
      cases rr
      cases r
      rcases q with ⟨hq, q⟩ | ⟨hq, q⟩
      · obtain ⟨its, rv, p', hz⟩ := I1.list hq
        exact enum_begins1 (begins_list a its.toArray) p'.isList fun h' he hit hsz hk => enum_end (o := default) (xs := xs) I1 hk he p'.lt (.inl ⟨iterAt.1 hit, q⟩)
      · obtain ⟨its, rv, p', hz⟩ := I1.tuple hq
        exact enum_begins1 (begins_tuple a its.toArray) p' fun h' he hit hsz hk => enum_end (o := default) (xs := xs) I1 hk he p'.lt (.inr ⟨iterAt.2 hit, q⟩)
  · cases r1 with
    | cons r rr =>
      cases rr with
      | cons r2 rr =>
        cases rr
        cases r
        obtain ⟨t, rfl⟩ := r2
        rcases q with ⟨hq, q⟩ | ⟨hq, q⟩
        · obtain ⟨its, rv, p', hz⟩ := I1.list hq
          exact enum_begins (begins_list a its.toArray) p'.isList hc0 hc1 fun h' he hit hsz hk => enum_end (o := default) (xs := xs) I1 hk he p'.lt (.inl ⟨iterAt.1 hit, q⟩)
        · obtain ⟨its, rv, p', hz⟩ := I1.tuple hq
          exact enum_begins (begins_tuple a its.toArray) p' hc0 hc1 fun h' he hit hsz hk => enum_end (o := default) (xs := xs) I1 hk he p'.lt (.inr ⟨iterAt.2 hit, q⟩)
end Fn
namespace Fn
open PySem L2
/-! ### statements -/
abbrev Sv := Lo → List UO → Rt
def PtS (G : Cfg) (W : WX) (w : Wd) (r : Rt) (D : Ends) : Prop :=
  match r with
  | .nx us h => ∀ (w' : Wd) (σ' : L2.St), w'.h = h → Ext w w' → Sm G w' → SL G w' us σ' → D.nx σ' w'.H
  | .bk us h => ∀ (w' : Wd) (σ' : L2.St), w'.h = h → Ext w w' → Sm G w' → SL G w' us σ' → D.bk σ' w'.H
  | .ct us h => ∀ (w' : Wd) (σ' : L2.St), w'.h = h → Ext w w' → Sm G w' → SL G w' us σ' → D.ct σ' w'.H
  | .rt u h => ∀ (w' : Wd) (v : V), w'.h = h → Ext w w' → Sm G w' → R G w' u v → D.rt v w'.H
  | .ex e us h => ∀ (w' : Wd) (σ' : L2.St) (cls : Value) (d : Option Addr), w'.h = h → Ext w w' → Sm G w' → SL G w' us σ' → RX G w' e cls d → W cls d σ' w'.H
  | .no => False
def tS (G : Cfg) (g : Sv) (W : WX) : TS := fun D σ H => ∃ us w, w.H = H ∧ Sm G w ∧ SL G w us σ ∧ PtS G W w (g us w.h) D
def Rs.then {α : Type} (r : Rs α) (us : Lo) (k : α → List UO → Rt) : Rt :=
  match r with
  | .ok a h => k a h
  | .ex e h => .ex e us h
  | .no => .no
section
variable {α β : Type} {G : Cfg} {Rel : Wd → α → β → Prop} {W : WX} {σ : L2.St} {w w1 : Wd} {D : Ends}
theorem PtS.weak {r : Rt} (e : Ext w w1) (h : PtS G W w r D) : PtS G W w1 r D := by
  cases r with
  | nx us hh => exact fun w' s a b => h w' s a (e.trans b)
  | bk us hh => exact fun w' s a b => h w' s a (e.trans b)
  | ct us hh => exact fun w' s a b => h w' s a (e.trans b)
  | rt u hh => exact fun w' s a b => h w' s a (e.trans b)
  | ex x us hh => exact fun w' s c d a b => h w' s c d a (e.trans b)
  | no => exact h
theorem PtS.then {r : Rs α} {k : α → List UO → Rt} {us : Lo} (m : Sm G w) (sl : SL G w us σ) (h : PtS G W w (r.then us k) D) :
    Pt G Rel W σ w r fun b H1 => ∃ w1 a, w1.H = H1 ∧ Ext w w1 ∧ Sm G w1 ∧ Rel w1 a b ∧ SL G w1 us σ ∧ PtS G W w1 (k a w1.h) D := by
  cases r with
  | ok a hh =>
    intro w' b e1 e2 m' rl
    subst e1
    exact ⟨w', a, rfl, e2, m', rl, sl.up m e2, PtS.weak e2 h⟩
  | ex x hh => exact fun w' c d e1 e2 m' rx => h w' σ c d e1 e2 m' (sl.up m e2) rx
  | no => exact h
theorem PtS.imp {r : Rt} {D' : Ends} (h : PtS G W w r D) (h1 : ∀ σ H, D.nx σ H → D'.nx σ H) (h2 : ∀ σ H, D.bk σ H → D'.bk σ H) (h3 : ∀ σ H, D.ct σ H → D'.ct σ H) (h4 : ∀ v H, D.rt v H → D'.rt v H) : PtS G W w r D' := by
  cases r with
  | nx us hh => exact fun w' s a b c d => h1 _ _ (h w' s a b c d)
  | bk us hh => exact fun w' s a b c d => h2 _ _ (h w' s a b c d)
  | ct us hh => exact fun w' s a b c d => h3 _ _ (h w' s a b c d)
  | rt u hh => exact fun w' s a b c d => h4 _ _ (h w' s a b c d)
  | ex x us hh => exact h
  | no => exact h
end
section
variable {X : Cx} {G : Cfg} {W : WX} {e : Expr} {f : Ev} {pos : Pos}
def gNx : Sv := fun us h => .nx us h
def gSeq (a b : Sv) : Sv := fun us h => match a us h with
  | .nx us1 h1 => b us1 h1
  | r => r
theorem ss_nil : PSs X [] (tS G gNx W) := PSs.imp pss_nil fun D σ _ ⟨us, w, e, m, sl, h⟩ => by
  subst e
  exact h w σ rfl (Ext.refl w) m sl
theorem ss_cons {st : Stmt} {rest : List Stmt} {a b : Sv} (h1 : PS X st (tS G a W)) (h2 : PSs X rest (tS G b W)) : PSs X (st :: rest) (tS G (gSeq a b) W) :=
  PSs.imp (pss_cons h1 h2) fun D σ _ ⟨us, w, e, m, sl, h⟩ => by
    subst e
    refine ⟨us, w, rfl, m, sl, ?_⟩
    unfold gSeq at h
    cases q : a us w.h with
    | nx us1 hh =>
      rw [q] at h
      intro w' σ' e1 e2 m' sl'
      subst e1
      exact ⟨us1, w', rfl, m', sl', PtS.weak e2 h⟩
    | bk us1 hh => rw [q] at h; exact h
    | ct us1 hh => rw [q] at h; exact h
    | rt u hh => rw [q] at h; exact h
    | ex x us1 hh => rw [q] at h; exact h
    | no => rw [q] at h; exact h
theorem ss_one {st : Stmt} {a : Sv} (h1 : PS X st (tS G a W)) : PSs X [st] (tS G a W) := pss_one h1
theorem s_pass : PS X (.Pass pos) (tS G gNx W) := PS.imp ps_pass fun D σ _ ⟨us, w, e, m, sl, h⟩ => by
  subst e
  exact h w σ rfl (Ext.refl w) m sl
def gBk : Sv := fun us h => .bk us h
def gCt : Sv := fun us h => .ct us h
theorem s_break : PS X (.Break pos) (tS G gBk W) := PS.imp ps_break fun D σ _ ⟨us, w, e, m, sl, h⟩ => by
  subst e
  exact h w σ rfl (Ext.refl w) m sl
theorem s_continue : PS X (.Continue pos) (tS G gCt W) := PS.imp ps_continue fun D σ _ ⟨us, w, e, m, sl, h⟩ => by
  subst e
  exact h w σ rfl (Ext.refl w) m sl
def gEx (f : Ev) : Sv := fun us h => (f us h).then us fun _ h1 => .nx us h1
theorem s_expr (he : PE X e (tE G f W)) (hs : swapsWith e none pos.line X.env = pure false := by rfl) : PS X (.Expr e pos) (tS G (gEx f) W) :=
  PS.imp (ps_expr he hs) fun D σ _ ⟨us, w, e, m, sl, h⟩ => by
    subst e
    refine ⟨us, w, rfl, m, sl, (PtS.then m sl h).imp ?_⟩
    rintro v H1 ⟨w1, a, rfl, e1, m1, r1, sl1, h1⟩
    exact h1 w1 σ rfl (Ext.refl _) m1 sl1
def gRet (f : Ev) : Sv := fun us h => (f us h).then us fun u h1 => .rt u h1
theorem s_ret (he : PE X e (tE G f W)) : PS X (.Return (some e) pos) (tS G (gRet f) W) :=
  PS.imp (ps_ret he) fun D σ _ ⟨us, w, e, m, sl, h⟩ => by
    subst e
    refine ⟨us, w, rfl, m, sl, (PtS.then m sl h).imp ?_⟩
    rintro v H1 ⟨w1, a, rfl, e1, m1, r1, sl1, h1⟩
    exact h1 w1 v rfl (Ext.refl _) m1 r1
def gRetN : Sv := fun _ h => .rt .non h
theorem s_retN : PS X (.Return none pos) (tS G gRetN W) := PS.imp ps_retN fun D σ _ ⟨us, w, e, m, sl, h⟩ => by
  subst e
  exact h w .non rfl (Ext.refl w) m .non
def gIf (c : EvB) (a b : Sv) : Sv := fun us h => (c us h).then us fun b1 h1 => match b1 with | true => a us h1 | false => b us h1
theorem s_if {c : Expr} {fc : EvB} {a b : List Stmt} {ga gb : Sv} (hc : PT X c (tT G fc W)) (ha : PSs X a (tS G ga W)) (hb : PSs X b (tS G gb W)) : PS X (.If c a b pos) (tS G (gIf fc ga gb) W) :=
  PS.imp (ps_if hc ha hb) fun D σ _ ⟨us, w, e, m, sl, h⟩ => by
    subst e
    refine ⟨us, w, rfl, m, sl, (PtS.then (Rel := fun _ (a b : Bool) => a = b) m sl h).imp ?_⟩
    rintro v H1 ⟨w1, a, rfl, e1, m1, rfl, sl1, h1⟩
    cases a with
    | true => exact ⟨us, w1, rfl, m1, sl1, h1⟩
    | false => exact ⟨us, w1, rfl, m1, sl1, h1⟩
/-- name = value -/
def gSet (i : Nat) (f : Ev) : Sv := fun us h => (f us h).then us fun u h1 => .nx (us.set i (some u)) h1
theorem set_of {i : Nat} {D : Ends} {σ : L2.St} {H : Hp} (h : tS G (gSet i f) W D σ H) : tE G f W σ H fun x H1 => gName i x σ H1 D.nx := by
  obtain ⟨us, w, rfl, m, sl, h⟩ := h
  refine ⟨us, w, rfl, m, sl, (PtS.then m sl h).imp ?_⟩
  rintro v H1 ⟨w1, a, rfl, e1, m1, r1, sl1, h1⟩
  exact h1 w1 _ rfl (Ext.refl _) m1 (sl1.set r1 i)
theorem s_set {i : Nat} {x : Str} {pos' : Pos} (hN : X.N.Nodup) (hi : X.N[i]? = some x) (hx : Loc X.env.scope x) (he : PE X e (tE G f W)) (hs : swapsWith e (some (.Name x pos')) pos.line X.env = pure false := by rfl) (hf : X.fn x = true ∨ X.env.scope.names.lookup x = some .local := by first | exact .inl rfl | exact .inr rfl | assumption) :
    PS X (.Assign [.Name x pos'] e pos) (tS G (gSet i f) W) := PS.imp (ps_set (i := i) hN hi hx he hs hf) fun _ _ _ h => set_of h
/-- o[i] = value: a list -/
def kPut (o i v : U) (h : List UO) : Rs Unit := match o, i with
  | .ref p, .int k => (match h[p]? with
    | some (.lst xs) => (match ixN xs.length k with | some j => .ok () (h.set p (.lst (xs.set j v))) | none => .no)
    | _ => .no)
  | _, _ => .no
def gPut (fo fi fv : Ev) : Sv := fun us h => (fv us h).then us fun v h1 => (fo us h1).then us fun o h2 => (fi us h2).then us fun i h3 => (kPut o i v h3).then us fun _ h4 => .nx us h4
theorem putL {w : Wd} {i : Nat} {a : Addr} {xs ys : List U} {vs ws : List V} (m : Sm G w) (hr : w.r[i]? = some a) (hx : w.h[i]? = some (.lst xs)) (l : RL G w ys ws) :
    Ext w (w.put i a (.lst ys) (.lst ws)) ∧ Sm G (w.put i a (.lst ys) (.lst ws)) := by
  have e : Ext w (w.put i a (.lst ys) (.lst ws)) := Ext.put m hr hx
  exact ⟨e, m.put hr hx (.lst upd_same (l.up m e))⟩
theorem s_put {o i : Expr} {fo fi fv : Ev} {tpos : Pos} (he : PE X e (tE G fv W)) (ho : PE X o (tE G fo W)) (hi : PE X i (tE G fi W))
    (hs : swapsWithSole [.Subscript o i tpos] e pos.line X.env = pure false := by rfl) (hw : swappedStores [.Subscript o i tpos] e X.env = pure none := by rfl) (h1 : (assignEach [.Subscript o i tpos] X.env).map (·.2) = [assign (.Subscript o i tpos) X.env] := by rfl)
    (ha : ∀ v, assign (.Subscript o i tpos) X.env v = (do
      let ov ← holding [v] (eval o X.env)
      let iv ← holding [v, ov] (eval i X.env)
      standAt tpos
      holding [v, ov, iv] (setItem ov iv v)
      release [v, ov, iv] []) := by intro _; rfl) : PS X (.Assign [.Subscript o i tpos] e pos) (tS G (gPut fo fi fv) W) :=
  PS.imp (ps_asg he (pg_sub ho hi set_list ha) hs hw h1) fun D σ _ ⟨us, w, e, m, sl, h⟩ => by
    subst e
    refine ⟨us, w, rfl, m, sl, (PtS.then m sl h).imp ?_⟩
    rintro v H1 ⟨w1, uv, rfl, e1, m1, r1, sl1, h1⟩
    refine ⟨us, w1, rfl, m1, sl1, (PtS.then (Rel := R G) m1 sl1 h1).imp ?_⟩
    rintro ov H2 ⟨w2, uo, rfl, e2, m2, r2, sl2, h2⟩
    refine ⟨us, w2, rfl, m2, sl2, (PtS.then (Rel := R G) m2 sl2 h2).imp ?_⟩
    rintro iv H3 ⟨w3, ui, rfl, e3, m3, r3, sl3, h3⟩
    have r2 := r2.up m2 e3
    have r1 := r1.up m1 (e2.trans e3)
    unfold kPut at h3
    split at h3
    · cases r2 with
      | @ref p a hr =>
        cases r3 with
        | int k =>
          split at h3
          · rename_i xs q
            split at h3
            · rename_i j q2
              cases m3.obj _ _ _ hr q with
              | @lst _ vs hv l =>
                obtain ⟨ex, sm⟩ := putL (vs := vs) m3 hr q (l.set r1 j)
                exact ⟨a, vs, _, j, rfl, rfl, hv, by rw [← l.length]; exact q2, h3 _ σ rfl ex sm (sl3.up m3 ex)⟩
            · exact h3.elim
          · exact h3.elim
    · exact h3.elim
end
/-! ### targets -/
abbrev Tgt := U → Lo → Option Lo
/-- the slots but sl are as they were -/
def Ag (sl : List Nat) (σ σ' : L2.St) : Prop := σ'.length = σ.length ∧ ∀ j, j ∉ sl → σ'[j]? = σ[j]?
def tG (G : Cfg) (a : Tgt) (sl : List Nat) : TG := fun v σ H Q => ∃ u us w, w.H = H ∧ Sm G w ∧ SL G w us σ ∧ R G w u v ∧
  match a u us with
  | some us' => ∀ σ', SL G w us' σ' → Ag sl σ σ' → Q σ' H
  | none => False
def tGs (G : Cfg) (a : List U → Lo → Option Lo) (sl : List Nat) : TGs := fun vs σ H Q => ∃ u us w, w.H = H ∧ Sm G w ∧ SL G w us σ ∧ RL G w u vs ∧
  match a u us with
  | some us' => ∀ σ', SL G w us' σ' → Ag sl σ σ' → Q σ' H
  | none => False
def aName (i : Nat) : Tgt := fun u us => some (us.set i (some u))
def aNil : List U → Lo → Option Lo := fun u us => match u with | [] => some us | _ => none
def aCons (a : Tgt) (b : List U → Lo → Option Lo) : List U → Lo → Option Lo := fun u us => match u with
  | x :: r => (match a x us with | some us1 => b r us1 | none => none)
  | [] => none
def aTup (b : List U → Lo → Option Lo) : Tgt := fun u us => match u with | .tup xs => b xs us | _ => none
theorem PGs.imp {X : Cx} {e : List Expr} {t t' : TGs} (h : PGs X e t) (i : ∀ v σ H Q, t' v σ H Q → t v σ H Q) : PGs X e t' := ⟨fun pins s σ H v u Q I r q => h.run pins s σ H v u Q I r (i v σ H Q q)⟩
section
variable {X : Cx} {G : Cfg} {pos : Pos}
theorem g_name {i : Nat} {x : Str} (hN : X.N.Nodup) (hi : X.N[i]? = some x) (hx : Loc X.env.scope x) (hf : X.fn x = true ∨ X.env.scope.names.lookup x = some .local := by first | exact .inl rfl | exact .inr rfl | assumption) : PG X (.Name x pos) (tG G (aName i) [i]) :=
  PG.imp (pg_name (i := i) hN hi hx hf) fun v σ _ Q ⟨u, us, w, e, m, sl, r, h⟩ => by
    subst e
    exact h _ (sl.set r i) ⟨List.length_set, fun j hj => List.getElem?_set_ne (fun z : i = j => hj (by simp [z]))⟩
theorem gs_nil : PGs X [] (tGs G aNil []) := PGs.imp pgs_nil fun vs σ _ Q ⟨u, us, w, e, m, sl, r, h⟩ => by
  subst e
  cases r with
  | nil => exact ⟨rfl, h σ sl ⟨rfl, fun _ _ => rfl⟩⟩
  | cons _ _ => exact h.elim
theorem tG_len {G : Cfg} {w : Wd} {us us' : Lo} {σ : L2.St} (a : SL G w us σ) (h : us'.length = us.length) : us'.length = σ.length := h.trans a.1
theorem gs_cons {e : Expr} {es : List Expr} {a : Tgt} {b : List U → Lo → Option Lo} {s1 s2 : List Nat} (h1 : PG X e (tG G a s1)) (h2 : PGs X es (tGs G b s2))
    (hs : (assignEach (e :: es) X.env).map (·.2) = assign e X.env :: (assignEach es X.env).map (·.2) := by rfl) : PGs X (e :: es) (tGs G (aCons a b) (s1 ++ s2)) :=
  PGs.imp (pgs_cons h1 h2 hs) fun vs σ _ Q ⟨u, us, w, e, m, sl, r, h⟩ => by
    subst e
    cases r with
    | nil => exact h.elim
    | @cons x v xs vs r t =>
      refine ⟨v, vs, rfl, x, us, w, rfl, m, sl, r, ?_⟩
      unfold aCons at h
      dsimp only at h
      cases q : a x us with
      | none => rw [q] at h; exact h.elim
      | some us1 =>
        rw [q] at h
        dsimp only at h ⊢
        intro σ1 sl1 ag1
        refine ⟨xs, us1, w, rfl, m, sl1, t, ?_⟩
        cases q2 : b xs us1 with
        | none => rw [q2] at h; exact h.elim
        | some us2 =>
          rw [q2] at h
          intro σ2 sl2 ag2
          refine h σ2 sl2 ⟨ag2.1.trans ag1.1, fun j hj => ?_⟩
          rw [List.mem_append, not_or] at hj
          rw [ag2.2 j hj.2, ag1.2 j hj.1]
theorem g_tup {es : List Expr} {k n : Nat} {b : List U → Lo → Option Lo} {sl : List Nat} (hK : X.K = G.K) (hc : X.calm = true) (h : PGs X es (tGs G b sl)) (hl : ∀ xs us us', b xs us = some us' → xs.length = n)
    (hn : (assignEach es X.env).length = n := by rfl) (hst : (assignEach es X.env).findIdx? (·.1) = none := by rfl) : PG X (.Tuple es k pos) (tG G (aTup b) sl) :=
  PG.imp (pg_tup hc h hn hst) fun v σ _ Q ⟨u, us, w, e, m, sl, r, h⟩ => by
    subst e
    cases r with
    | @tup a xs vs h1 l =>
      have h : (match b xs us with | some us' => ∀ σ', SL G w us' σ' → Ag _ σ σ' → Q σ' w.H | none => False) := h
      cases q : b xs us with
      | none => rw [q] at h; exact h.elim
      | some us' =>
        rw [q] at h
        exact ⟨a, vs, rfl, by rw [hK]; exact h1.1, by rw [← l.length]; exact hl _ _ _ q, xs, us, w, rfl, m, sl, l, by rw [q]; exact h⟩
    | _ => exact h.elim
theorem aNil_len : ∀ (xs : List U) (us us' : Lo), aNil xs us = some us' → xs.length = 0
  | [], _, _, _ => rfl
  | _ :: _, _, _, h => nomatch h
theorem aCons_len {a : Tgt} {b : List U → Lo → Option Lo} {n : Nat} (h : ∀ (xs : List U) (us us' : Lo), b xs us = some us' → xs.length = n) : ∀ (xs : List U) (us us' : Lo), aCons a b xs us = some us' → xs.length = n + 1
  | [], _, _, q => nomatch q
  | x :: r, us, us', q => by
    unfold aCons at q
    dsimp only at q
    split at q
    · rw [List.length_cons, h _ _ _ q]
    · cases q
/-- target = value, a target of several names -/
def gAsg (a : Tgt) (f : Ev) : Sv := fun us h => (f us h).then us fun u h1 => match a u us with | some us1 => .nx us1 h1 | none => .no
theorem s_asg {W : WX} {tg e : Expr} {f : Ev} {a : Tgt} {sl : List Nat} (he : PE X e (tE G f W)) (hg : PG X tg (tG G a sl)) (hs : swapsWithSole [tg] e pos.line X.env = pure false := by rfl) (hw : swappedStores [tg] e X.env = pure none := by rfl)
    (h1 : (assignEach [tg] X.env).map (·.2) = [assign tg X.env] := by rfl) : PS X (.Assign [tg] e pos) (tS G (gAsg a f) W) :=
  PS.imp (ps_asg he hg hs hw h1) fun D σ _ ⟨us, w, e, m, sl, h⟩ => by
    subst e
    refine ⟨us, w, rfl, m, sl, (PtS.then m sl h).imp ?_⟩
    rintro v H1 ⟨w1, u, rfl, e1, m1, r1, sl1, h1⟩
    refine ⟨u, us, w1, rfl, m1, sl1, r1, ?_⟩
    split at h1
    · rename_i us1 q
      try rw [q]
      exact fun σ' sl' _ => h1 w1 σ' rfl (Ext.refl _) m1 sl'
    · exact h1.elim
end
/-! ### what is walked -/
inductive Src where
  | fix (xs : List U)
  | dyn (it : Nat → List UO → Option (Option U))
def Src.at (s : Src) (i : Nat) (h : List UO) : Option (Option U) := match s with
  | .fix xs => some xs[i]?
  | .dyn it => it i h
/-- the iterator J gives what src tells, in all that comes -/
def JR (G : Cfg) (w : Wd) (src : Src) (J : It) : Prop := ∀ (w' : Wd), Ext w w' → Sm G w' → ∀ i, match src.at i w'.h with
  | some (some u) => J.go i w'.H ∧ ∀ x H', J.yld i w'.H x H' → ∃ w'' : Wd, w''.H = H' ∧ w''.h = w'.h ∧ Ext w' w'' ∧ Sm G w'' ∧ R G w'' u x
  | some none => J.stop i w'.H
  | none => True
abbrev EvI := Lo → List UO → Rs Src
abbrev tI (G : Cfg) (f : EvI) (W : WX) : TI := tX G (JR G) f W
def dynL (p : Nat) : Src := .dyn fun i h => match h[p]? with | some (.lst xs) => some xs[i]? | _ => none
theorem JR.up {G : Cfg} {w w1 : Wd} {src : Src} {J : It} (e : Ext w w1) (h : JR G w src J) : JR G w1 src J := fun w' e' m i => h w' (e.trans e') m i
section
variable {G : Cfg} {w : Wd} {K : PySem.W.Frag}
theorem jr_fl {a : Addr} {xs : List U} (m : Sm G w) (r : R G w (.fl xs) (.ref a)) : JR G w (.fix xs) (Itl G.K a) := by
  intro w' e m' i
  cases r.up m e with
  | @fl _ _ vs h1 h2 l =>
    show (match some xs[i]? with | some (some u) => _ | some none => _ | none => True)
    cases q : xs[i]? with
    | none => exact ⟨vs, .inl (.inl h1), by rw [← l.length]; exact List.getElem?_eq_none_iff.mp q⟩
    | some u =>
      obtain ⟨v, hv, rv⟩ := l.get q
      refine ⟨⟨vs, v, .inl (.inl h1), hv⟩, fun x H' ⟨e1, hy⟩ => ⟨w', e1.symm, rfl, Ext.refl _, m', ?_⟩⟩
      have := hy vs (.inl (.inl h1))
      rw [hv] at this
      exact Option.some.inj this ▸ rv
theorem jr_scr {a : Addr} {xs : List Int} (m : Sm G w) (r : R G w (.scr xs) (.ref a)) : JR G w (.fix (xs.map U.int)) (Itl G.K a) := by
  intro w' e m' i
  have hr := r.up m e
  have hq : SqL G.K w'.H a (xs.map V.int) := by
    cases hr with
    | scr h1 =>
      rcases h1 with ⟨o, h1⟩ | h1
      · exact .inl (.inr ⟨o, h1⟩)
      · exact h1 _
  show (match some (xs.map U.int)[i]? with | some (some u) => _ | some none => _ | none => True)
  cases q : xs[i]? with
  | none =>
    rw [List.getElem?_map, q]
    exact ⟨_, hq, by rw [List.length_map]; exact List.getElem?_eq_none_iff.mp q⟩
  | some z =>
    rw [List.getElem?_map, q]
    have hv : (xs.map V.int)[i]? = some (.int z) := by rw [List.getElem?_map, q]; rfl
    refine ⟨⟨_, _, hq, hv⟩, fun x H' ⟨e1, hy⟩ => ⟨w', e1.symm, rfl, Ext.refl _, m', ?_⟩⟩
    have := hy _ hq
    rw [hv] at this
    exact Option.some.inj this ▸ .int z
theorem jr_ref {a : Addr} {p : Nat} (m : Sm G w) (r : R G w (.ref p) (.ref a)) : JR G w (dynL p) (Itl G.K a) := by
  intro w' e m' i
  cases r.up m e with
  | ref h1 =>
    show (match (match w'.h[p]? with | some (.lst xs) => some xs[i]? | _ => none) with | some (some u) => _ | some none => _ | none => True)
    cases q : w'.h[p]? with
    | none => trivial
    | some o =>
      cases o with
      | lst xs =>
        cases m'.obj _ _ _ h1 q with
        | @lst _ vs h2 l =>
          dsimp only
          cases q2 : xs[i]? with
          | none => exact ⟨vs, .inl (.inl h2), by rw [← l.length]; exact List.getElem?_eq_none_iff.mp q2⟩
          | some u =>
            obtain ⟨v, hv, rv⟩ := l.get q2
            refine ⟨⟨vs, v, .inl (.inl h2), hv⟩, fun x H' ⟨e1, hy⟩ => ⟨w', e1.symm, rfl, Ext.refl _, m', ?_⟩⟩
            have := hy vs (.inl (.inl h2))
            rw [hv] at this
            exact Option.some.inj this ▸ rv
      | _ => trivial
theorem jr_tup {a : Addr} {xs : List U} (m : Sm G w) (r : R G w (.tup xs) (.ref a)) : JR G w (.fix xs) (Itt G.K a) := by
  intro w' e m' i
  cases r.up m e with
  | @tup _ _ vs h1 l =>
    show (match some xs[i]? with | some (some u) => _ | some none => _ | none => True)
    cases q : xs[i]? with
    | none => exact ⟨vs, h1.1, by rw [← l.length]; exact List.getElem?_eq_none_iff.mp q⟩
    | some u =>
      obtain ⟨v, hv, rv⟩ := l.get q
      refine ⟨⟨vs, v, h1.1, hv⟩, fun x H' ⟨e1, hy⟩ => ⟨w', e1.symm, rfl, Ext.refl _, m', ?_⟩⟩
      have := hy vs h1.1
      rw [hv] at this
      exact Option.some.inj this ▸ rv
end
/-- any list, tuple or text -/
def signsU (x : Str) : List U := x.cps.toList.map fun c => U.str ⟨#[c]⟩
def eSeq (f : Ev) : EvI := fun us h => (f us h).bind fun u h1 => match u with
  | .fl xs => .ok (.fix xs) h1
  | .tup xs => .ok (.fix xs) h1
  | .scr xs => .ok (.fix (xs.map .int)) h1
  | .ref p => (match h1[p]? with | some (.lst _) => .ok (dynL p) h1 | _ => .no)
  | .str x => .ok (.fix (signsU x)) h1
  | _ => .no
def iSeq (K : PySem.W.Frag) (tl : TE) : TI := fun σ H R => tl σ H fun x H1 =>
  (∃ a, x = .ref a ∧ (∃ xs, SqL K H1 a xs) ∧ R (Itl K a) H1) ∨ (∃ a, x = .ref a ∧ (∃ xs, SqT K H1 a xs) ∧ R (Itt K a) H1) ∨ (∃ z, x = .str z ∧ R (Its z) H1)
theorem pi_seq {X : Cx} {tg l : Expr} {tl : TE} (hl : PE X l tl) : PI X tg l (iSeq X.K tl) := by
  refine ⟨fun pins s σ H R I h => ?_⟩
  have hsplit : ∀ {v : Value} {s1 : Shared} {x : V} {H1 : Hp}, Inv X pins σ H1 s1 → RelV x v →
      ((∃ a, x = .ref a ∧ (∃ xs, SqL X.K H1 a xs) ∧ R (Itl X.K a) H1) ∨ (∃ a, x = .ref a ∧ (∃ xs, SqT X.K H1 a xs) ∧ R (Itt X.K a) H1) ∨ (∃ z, x = .str z ∧ R (Its z) H1)) →
      wpAny (model X.prog X.w) X.A (pyIter v) (PIE X pins σ tg R) X.xe s1 := by
    intro v s1 x H1 I1 r1 q1
    rcases q1 with ⟨a, rfl, ⟨xs, hq⟩, q⟩ | ⟨a, rfl, ⟨xs, hq⟩, q⟩ | ⟨z, rfl, q⟩
    · cases r1
      obtain ⟨its, rv, p, hz⟩ := I1.list hq
      refine wpAny_pyIter_list p.isList ?_
      refine ⟨s1.heap.objs.size, [s1.heap.objs.size], _, _, H1, rfl, I1.kept (t' := s1.toks) fun b o e => Heap.get?_push_of_some _ e, turn_list a _, ⟨_, Heap.get?_push_size _ rfl, rfl, rfl⟩, fun b hb => ?_, q⟩
      have e : b = s1.heap.objs.size := by simpa using hb
      subst e
      exact I1.fpOk (Nat.le_refl _) (I1.hok.fresh (Nat.le_refl _))
    · cases r1
      obtain ⟨its, rv, p, hz⟩ := I1.tuple hq
      refine wpAny_pyIter_tuple (show s1.heap.IsTuple a its.toArray from p) ?_
      refine ⟨s1.heap.objs.size, [s1.heap.objs.size], _, _, H1, rfl, I1.kept (t' := s1.toks) fun b o e => Heap.get?_push_of_some _ e, turn_tuple a _, ⟨_, Heap.get?_push_size _ rfl, rfl, rfl⟩, fun b hb => ?_, q⟩
      have e : b = s1.heap.objs.size := by simpa using hb
      subst e
      exact I1.fpOk (Nat.le_refl _) (I1.hok.fresh (Nat.le_refl _))
    · obtain ⟨t, rfl⟩ := r1
      cases ha : z.cps.all (· < 128)
      · exact wpAny_pyIter_wide ha (pi_one (tk := s1.toks) I1 _ (turn_str _ z t "str_iterator" (.inr rfl)) ⟨_, Heap.get?_push_size _ rfl, rfl, rfl⟩ q)
      · exact wpAny_pyIter_ascii ha (pi_one (tk := s1.toks) I1 _ (turn_str _ z t "str_ascii_iterator" (.inl rfl)) ⟨_, Heap.get?_push_size _ rfl, rfl, rfl⟩ q)
  exact thn (hl.run pins s σ H _ I h) fun v s1 ⟨x, H1, I1, r1, q1⟩ => hsplit I1 r1 q1
section
variable {G : Cfg} {w : Wd}
theorem jr_str {x : Str} : JR G w (.fix (signsU x)) (Its x) := by
  intro w' e m' i
  show (match some (signsU x)[i]? with | some (some u) => _ | some none => _ | none => True)
  unfold signsU
  rw [List.getElem?_map, Array.getElem?_toList]
  cases q : x.cps[i]? with
  | none => exact Array.getElem?_eq_none_iff.mp q
  | some c =>
    refine ⟨(Array.getElem?_eq_some_iff.mp q).1, fun y H' ⟨e1, d, hd, ey⟩ => ⟨w', e1.symm, rfl, Ext.refl _, m', ?_⟩⟩
    rw [q] at hd
    cases hd
    subst ey
    exact .str _
theorem jr_rgC {lo c : Int} {n : Nat} : JR G w (.fix ((List.range n).map fun i => U.int (lo + (i : Nat) * c))) (Itc lo c n) := by
  intro w' e m' i
  show (match some ((List.range n).map fun i => U.int (lo + (i : Nat) * c))[i]? with | some (some u) => _ | some none => _ | none => True)
  rw [List.getElem?_map]
  by_cases hi : i < n
  · rw [List.getElem?_range hi]
    refine ⟨hi, fun y H' ⟨e1, ey⟩ => ⟨w', e1.symm, rfl, Ext.refl _, m', ?_⟩⟩
    subst ey
    exact .int _
  · rw [List.getElem?_eq_none (by simpa using hi)]
    exact Nat.le_of_not_lt hi
theorem jr_rg {lo : Int} {n : Nat} : JR G w (.fix ((List.range n).map fun i => U.int (lo + (i : Nat)))) (Itr lo n) := by
  intro w' e m' i
  show (match some ((List.range n).map fun i => U.int (lo + (i : Nat)))[i]? with | some (some u) => _ | some none => _ | none => True)
  rw [List.getElem?_map]
  by_cases hi : i < n
  · rw [List.getElem?_range hi]
    refine ⟨hi, fun y H' ⟨e1, ey⟩ => ⟨w', e1.symm, rfl, Ext.refl _, m', ?_⟩⟩
    subst ey
    exact .int _
  · rw [List.getElem?_eq_none (by simpa using hi)]
    exact Nat.le_of_not_lt hi
/-- enumerate -/
def enumU (c : Int) : List U → List U
  | [] => []
  | x :: r => .tup [.int c, x] :: enumU (c + 1) r
theorem enumU_get : ∀ (xs : List U) (c : Int) (i : Nat), (enumU c xs)[i]? = xs[i]?.map fun x => U.tup [.int (c + (i : Nat)), x]
  | [], c, i => by simp [enumU]
  | x :: r, c, 0 => by simp [enumU]
  | x :: r, c, i + 1 => by
    have e : c + 1 + (i : Int) = c + ((i + 1 : Nat) : Int) := by omega
    simp only [enumU, List.getElem?_cons_succ]
    rw [enumU_get r (c + 1) i, e]
theorem pairNew {w' : Wd} (m' : Sm G w') {u1 u2 : U} {v1 v2 : V} {T : Addr} (hT : w'.H T = none) (r1 : R G w' u1 v1) (r2 : R G w' u2 v2) :
    ∃ w'' : Wd, w''.H = upd w'.H T (.tup [v1, v2]) ∧ w''.h = w'.h ∧ Ext w' w'' ∧ Sm G w'' ∧ R G w'' (.tup [u1, u2]) (.ref T) :=
  ⟨w'.new T (.tup [v1, v2]), rfl, rfl, Ext.new hT, m'.new hT, .tup (.new upd_same) ((RL.cons r1 (.cons r2 .nil)).up m' (Ext.new hT))⟩
theorem jr_en {S : Hp → List V → Prop} {c : Int} {get : List UO → Option (List U)} (hS : ∀ (w' : Wd), Ext w w' → Sm G w' → ∀ xs, get w'.h = some xs → ∃ vs, S w'.H vs ∧ RL G w' xs vs) :
    JR G w (.dyn fun i h => (get h).map fun xs => xs[i]?.map fun x => U.tup [.int (c + (i : Nat)), x]) (Iten S c) := by
  intro w' e m' i
  show (match (get w'.h).map fun xs => xs[i]?.map fun x => U.tup [.int (c + (i : Nat)), x] with | some (some u) => _ | some none => _ | none => True)
  cases q : get w'.h with
  | none => trivial
  | some xs =>
    obtain ⟨vs, hs, l⟩ := hS w' e m' xs q
    rw [Option.map_some]
    cases q2 : xs[i]? with
    | none => exact ⟨vs, hs, by rw [← l.length]; exact List.getElem?_eq_none_iff.mp q2⟩
    | some u =>
      obtain ⟨v, hv, rv⟩ := l.get q2
      refine ⟨⟨vs, v, hs, hv⟩, fun x H' ⟨T, y, e1, hT, e2, hy⟩ => ?_⟩
      subst e1 e2
      have := hy vs hs
      rw [hv] at this
      cases this
      exact pairNew m' hT (.int _) rv
theorem jr_enF {S : Hp → List V → Prop} {c : Int} {xs : List U} (hS : ∀ (w' : Wd), Ext w w' → Sm G w' → ∃ vs, S w'.H vs ∧ RL G w' xs vs) : JR G w (.fix (enumU c xs)) (Iten S c) := by
  intro w' e m' i
  have := jr_en (get := fun _ => some xs) (c := c) (S := S) (w := w) (G := G) (fun w' e m ys q => by cases q; exact hS w' e m) w' e m' i
  show (match some (enumU c xs)[i]? with | some (some u) => _ | some none => _ | none => True)
  rw [enumU_get]
  exact this
/-- zip -/
def zipU : List U → List U → List U
  | x :: r, y :: t => .tup [x, y] :: zipU r t
  | _, _ => []
theorem zipU_get : ∀ (xs ys : List U) (i : Nat), (zipU xs ys)[i]? = (match xs[i]?, ys[i]? with | some x, some y => some (U.tup [x, y]) | _, _ => none)
  | [], _, i => by simp [zipU]
  | x :: r, [], i => by cases h : (x :: r)[i]? <;> simp [zipU]
  | x :: r, y :: t, 0 => by simp [zipU]
  | x :: r, y :: t, i + 1 => by
    simp only [zipU, List.getElem?_cons_succ]
    exact zipU_get r t i
theorem zip_step {w' : Wd} (m' : Sm G w') {S1 S2 : Hp → List V → Prop} {xs ys : List U} {vs ws : List V} (h1 : S1 w'.H vs) (h2 : S2 w'.H ws) (l1 : RL G w' xs vs) (l2 : RL G w' ys ws) (i : Nat) :
    match (match xs[i]?, ys[i]? with | some x, some y => some (U.tup [x, y]) | _, _ => none) with
    | some u => (∃ (xs ys : List V) (x y : V), S1 w'.H xs ∧ S2 w'.H ys ∧ xs[i]? = some x ∧ ys[i]? = some y) ∧ ∀ v H', (∃ T x y, v = .ref T ∧ w'.H T = none ∧ H' = upd w'.H T (.tup [x, y]) ∧ (∀ xs, S1 w'.H xs → xs[i]? = some x) ∧ ∀ ys, S2 w'.H ys → ys[i]? = some y) →
      ∃ w'' : Wd, w''.H = H' ∧ w''.h = w'.h ∧ Ext w' w'' ∧ Sm G w'' ∧ R G w'' u v
    | none => ∃ xs ys : List V, S1 w'.H xs ∧ S2 w'.H ys ∧ (xs.length ≤ i ∨ ys.length ≤ i) := by
  cases q1 : xs[i]? with
  | none => exact ⟨vs, ws, h1, h2, .inl (by rw [← l1.length]; exact List.getElem?_eq_none_iff.mp q1)⟩
  | some u1 =>
    cases q2 : ys[i]? with
    | none => exact ⟨vs, ws, h1, h2, .inr (by rw [← l2.length]; exact List.getElem?_eq_none_iff.mp q2)⟩
    | some u2 =>
      obtain ⟨v1, hv1, rv1⟩ := l1.get q1
      obtain ⟨v2, hv2, rv2⟩ := l2.get q2
      refine ⟨⟨vs, ws, v1, v2, h1, h2, hv1, hv2⟩, fun x H' ⟨T, y1, y2, e1, hT, e2, hy1, hy2⟩ => ?_⟩
      subst e1 e2
      have k1 := hy1 vs h1
      have k2 := hy2 ws h2
      rw [hv1] at k1
      rw [hv2] at k2
      cases k1
      cases k2
      exact pairNew m' hT rv1 rv2
end
section
variable {X : Cx} {G : Cfg} {W : WX} {e : Expr} {f : Ev} {fa : EvA} {pos p tpos : Pos} {tg : Expr}
theorem i_seq (hK : X.K = G.K) (he : PE X e (tE G f W)) : PI X tg e (tI G (eSeq f) W) :=
  PI.imp (pi_seq he) fun σ _ Rr ⟨us, w, e, m, sl, h⟩ => by
    subst e
    refine ⟨us, w, rfl, m, sl, (Pt.bind (Rel := R G) h).imp ?_⟩
    rintro v H1 ⟨w1, u, rfl, e1, m1, r1, h1⟩
    rw [hK]
    cases r1 with
    | @fl a xs vs g1 g2 l => exact .inl ⟨a, rfl, ⟨vs, .inl (.inl g1)⟩, h1 w1 _ rfl (Ext.refl _) m1 (jr_fl m1 (.fl g1 g2 l))⟩
    | @scr a xs g1 =>
      refine .inl ⟨a, rfl, ⟨xs.map V.int, ?_⟩, h1 w1 _ rfl (Ext.refl _) m1 (jr_scr m1 (.scr g1))⟩
      rcases g1 with ⟨o, g1⟩ | g1
      · exact .inl (.inr ⟨o, g1⟩)
      · exact g1 _
    | @tup a xs vs g1 l => exact .inr (.inl ⟨a, rfl, ⟨vs, g1.1⟩, h1 w1 _ rfl (Ext.refl _) m1 (jr_tup m1 (.tup g1 l))⟩)
    | @ref q a g1 =>
      have h1 : Pt G (JR G) W σ w1 (match w1.h[q]? with | some (.lst _) => .ok (dynL q) w1.h | _ => .no) Rr := h1
      split at h1
      · rename_i ys q2
        cases m1.obj _ _ _ g1 q2 with
        | @lst _ vs g2 l => exact .inl ⟨a, rfl, ⟨vs, .inl (.inl g2)⟩, h1 w1 _ rfl (Ext.refl _) m1 (jr_ref m1 (.ref g1))⟩
      · exact h1.elim
    | str x => exact .inr (.inr ⟨x, rfl, h1 w1 _ rfl (Ext.refl _) m1 jr_str⟩)
    | non => exact False.elim h1
    | bl _ => exact False.elim h1
    | int _ => exact False.elim h1
    | ty _ => exact False.elim h1
    | tx _ _ _ => exact False.elim h1
    | ob _ _ _ _ => exact False.elim h1
end
end Fn
namespace Fn
open PySem L2
/-! ### ranges, enumerate, zip as sources -/
def ir1 (f : Ev) : EvI := fun us h => (f us h).bind fun u h1 => match u with
  | .int n => (match rgOk 0 n with | true => .ok (.fix (rgU 0 n)) h1 | false => .no)
  | _ => .no
def ir2 (f g : Ev) : EvI := fun us h => (f us h).bind fun u h1 => (g us h1).bind fun v h2 => match u, v with
  | .int a, .int b => (match rgOk a b with | true => .ok (.fix (rgU a b)) h2 | false => .no)
  | _, _ => .no
/-- a, a - 1, .., b + 1 -/
def downU (a b : Int) : List U := (List.range (a - b).toNat).map fun i => U.int (a + (i : Nat) * (-1))
def ir3 (f g k : Ev) : EvI := fun us h => (f us h).bind fun u h1 => (g us h1).bind fun v h2 => (k us h2).bind fun z h3 => match u, v, z with
  | .int a, .int b, .int c => (match (c == -1) && rgOk b a with | true => .ok (.fix (downU a b)) h3 | false => .no)
  | _, _, _ => .no
theorem rgOk_b {a b : Int} (h : rgOk a b = true) : -(2 ^ 62) ≤ a ∧ a < 2 ^ 62 ∧ -(2 ^ 62) ≤ b ∧ b < 2 ^ 62 := by
  have q := rgOk_ok h
  exact ⟨q.1, q.2.1, q.2.2.1, q.2.2.2.1⟩
section
variable {X : Cx} {G : Cfg} {W : WX} {e a b c : Expr} {es : List Expr} {f g k : Ev} {fa : EvA} {pos p tpos : Pos} {tg : Expr}
theorem i_rng1 (hg : Gl X "range") (hm : X.mg "range" = none) (ha : PE X a (tE G f W)) (hs : starEach [a] X.env = [(false, eval a X.env)] := by rfl) : PI X tg (.Call (.Name "range" p) [a] [] pos) (tI G (ir1 f) W) :=
  PI.imp (pi_range1 hg hm (pa_cons ha pa_nil hs) hs) fun σ _ Rr ⟨us, w, e, m, sl, h⟩ => by
    subst e
    refine ⟨us, w, rfl, m, sl, (Pt.bind (Rel := R G) h).imp ?_⟩
    rintro v H1 ⟨w1, u, rfl, e1, m1, r1, h1⟩
    split at h1
    · rename_i n
      cases r1
      split at h1
      · rename_i q
        obtain ⟨_, _, b3, b4⟩ := rgOk_b q
        refine ⟨n, rfl, b3, b4, h1 w1 _ rfl (Ext.refl _) m1 ?_⟩
        have e0 : n - 0 = n := by omega
        unfold rgU
        rw [e0]
        exact jr_rg
      · exact h1.elim
    · exact h1.elim
theorem i_rng2 (hg : Gl X "range") (hm : X.mg "range" = none) (ha : PE X a (tE G f W)) (hb : PE X b (tE G g W)) (hs : starEach [a, b] X.env = [(false, eval a X.env), (false, eval b X.env)] := by rfl) (hs2 : starEach [b] X.env = [(false, eval b X.env)] := by rfl) :
    PI X tg (.Call (.Name "range" p) [a, b] [] pos) (tI G (ir2 f g) W) :=
  PI.imp (pi_range2 hg hm (pa_cons ha (pa_cons hb pa_nil hs2) (hs.trans (by rw [hs2]))) hs hs2) fun σ _ Rr ⟨us, w, e, m, sl, h⟩ => by
    subst e
    refine ⟨us, w, rfl, m, sl, (Pt.bind (Rel := R G) h).imp ?_⟩
    rintro v H1 ⟨w1, u, rfl, e1, m1, r1, h1⟩
    refine ⟨us, w1, rfl, m1, sl.up m e1, (Pt.bind (Rel := R G) h1).imp ?_⟩
    rintro v' H2 ⟨w2, u', rfl, e2, m2, r2, h2⟩
    have r1 := r1.up m1 e2
    split at h2
    · cases r1
      cases r2
      split at h2
      · rename_i q
        exact ⟨_, _, rfl, rgOk_b q, h2 w2 _ rfl (Ext.refl _) m2 jr_rg⟩
      · exact h2.elim
    · exact h2.elim
theorem i_rng3 (hg : Gl X "range") (hm : X.mg "range" = none) (ha : PE X a (tE G f W)) (hb : PE X b (tE G g W)) (hc : PE X c (tE G k W)) (hs : starEach [a, b, c] X.env = (false, eval a X.env) :: starEach [b, c] X.env := by rfl) (hs2 : starEach [b, c] X.env = (false, eval b X.env) :: starEach [c] X.env := by rfl)
    (hs3 : starEach [c] X.env = (false, eval c X.env) :: starEach [] X.env := by rfl) (hpl : (backTo pos (starEach [b, c] X.env)).any (·.1) = false := by rfl) : PI X tg (.Call (.Name "range" p) [a, b, c] [] pos) (tI G (ir3 f g k) W) :=
  PI.imp (pi_range3 hg hm (pa_cons ha (pa_cons hb (pa_cons hc pa_nil hs3) hs2) hs) hs hpl) fun σ _ Rr ⟨us, w, e, m, sl, h⟩ => by
    subst e
    refine ⟨us, w, rfl, m, sl, (Pt.bind (Rel := R G) h).imp ?_⟩
    rintro v H1 ⟨w1, u, rfl, e1, m1, r1, h1⟩
    refine ⟨us, w1, rfl, m1, sl.up m e1, (Pt.bind (Rel := R G) h1).imp ?_⟩
    rintro v' H2 ⟨w2, u', rfl, e2, m2, r2, h2⟩
    refine ⟨us, w2, rfl, m2, (sl.up m e1).up m1 e2, (Pt.bind (Rel := R G) h2).imp ?_⟩
    rintro v3 H3 ⟨w3, u3, rfl, e3, m3, r3, h3⟩
    have r1 := r1.up m1 (e2.trans e3)
    have r2 := r2.up m2 e3
    split at h3
    · cases r1
      cases r2
      cases r3
      split at h3
      · rename_i q
        rw [Bool.and_eq_true, beq_iff_eq] at q
        obtain ⟨rfl, q⟩ := q
        obtain ⟨b1, b2, b3, b4⟩ := rgOk_b q
        exact ⟨_, _, -1, _, rfl, RgC.neg b3 b4 b1 b2, h3 w3 _ rfl (Ext.refl _) m3 jr_rgC⟩
      · exact h3.elim
    · exact h3.elim
/-- enumerate(x), enumerate(x, c) -/
def enSrc (h : List UO) (c : Int) (u : U) : Option Src := match u with
  | .ref p => (match h[p]? with
    | some (.lst _) => some (.dyn fun i h' => (match h'[p]? with | some (.lst xs) => some xs | _ => none).map fun xs => xs[i]?.map fun x => U.tup [.int (c + (i : Nat)), x])
    | _ => none)
  | u => (match seqU h u with | some xs => some (.fix (enumU c xs)) | none => none)
def ien (fa : EvA) : EvI := fun us h => (fa us h).bind fun xs h1 => match xs with
  | [u] => (match enSrc h1 0 u with | some s => .ok s h1 | none => .no)
  | [u, .int c] => (match Nat.ble c.natAbs 1000000 with | true => (match enSrc h1 c u with | some s => .ok s h1 | none => .no) | false => .no)
  | _ => .no
theorem enSrc_of {w : Wd} (m : Sm G w) {u : U} {v : V} {c : Int} {s : Src} (r : R G w u v) (h : enSrc w.h c u = some s) :
    ∃ a vs, v = .ref a ∧ ((SqL G.K w.H a vs ∧ JR G w s (Iten (fun H xs => SqL G.K H a xs) c)) ∨ (SqT G.K w.H a vs ∧ JR G w s (Iten (fun H xs => SqT G.K H a xs) c))) := by
  cases r with
  | @ref p a h1 =>
    have h : (match w.h[p]? with | some (.lst _) => some (Src.dyn fun i h' => (match h'[p]? with | some (.lst xs) => some xs | _ => none).map fun xs => xs[i]?.map fun x => U.tup [.int (c + (i : Nat)), x]) | _ => none) = some s := h
    split at h
    · rename_i ys q
      cases h
      cases m.obj _ _ _ h1 q with
      | @lst _ vs h2 l =>
        refine ⟨a, vs, rfl, .inl ⟨.inl (.inl h2), jr_en (get := fun h' => match h'[p]? with | some (.lst xs) => some xs | _ => none) fun w' e m' xs q' => ?_⟩⟩
        split at q'
        · rename_i zs q3
          cases q'
          cases m'.obj _ _ _ (e.get h1) q3 with
          | @lst _ vs' h3 l' => exact ⟨vs', .inl (.inl h3), l'⟩
        · cases q'
    · cases h
  | @tup a xs vs h1 l =>
    cases h
    exact ⟨a, vs, rfl, .inr ⟨h1.1, jr_enF fun w' e m' => ⟨vs, e.sqT h1.1, l.up m e⟩⟩⟩
  | @fl a xs vs h1 h2 l =>
    cases h
    exact ⟨a, vs, rfl, .inl ⟨.inl (.inl h1), jr_enF fun w' e m' => ⟨vs, .inl (.inl (e.keep _ _ h1 (.inl fun q => h2 (m.z _ q)))), l.up m e⟩⟩⟩
  | @scr a xs h1 =>
    cases h
    have hq : ∀ w' : Wd, Ext w w' → SqL G.K w'.H a (xs.map V.int) := fun w' e => by
      rcases h1 with ⟨o, h1⟩ | h1
      · exact .inl (.inr ⟨o, e.keep _ _ h1 (.inr trivial)⟩)
      · exact h1 _
    exact ⟨a, _, rfl, .inl ⟨hq w (Ext.refl _), jr_enF fun w' e m' => ⟨_, hq w' e, RL.ints⟩⟩⟩
  | non => cases h
  | bl _ => cases h
  | int _ => cases h
  | str _ => cases h
  | ty _ => cases h
  | tx _ _ _ => cases h
  | ob _ _ _ _ => cases h
theorem i_enum {elts : List Expr} {kk : Nat} (hK : X.K = G.K) (hg : Gl X "enumerate") (hm : X.mg "enumerate" = none) (ha : PA X (e :: es) (tA G fa W))
    (hs : starEach (e :: es) X.env = (false, eval e X.env) :: starEach es X.env := by rfl) (hpl : (backTo pos (starEach es X.env)).any (·.1) = false := by rfl) :
    PI X (.Tuple elts kk tpos) (.Call (.Name "enumerate" p) (e :: es) [] pos) (tI G (ien fa) W) :=
  PI.imp (pi_enumA hg hm ha hs hpl) fun σ _ Rr ⟨us, w, e, m, sl, h⟩ => by
    subst e
    refine ⟨us, w, rfl, m, sl, (Pt.bind (Rel := RL G) h).imp ?_⟩
    rintro vs H1 ⟨w1, xs, rfl, e1, m1, r1, h1⟩
    rw [hK]
    split at h1
    · cases r1 with
      | cons r t =>
        cases t
        split at h1
        · rename_i s q
          obtain ⟨a, ws, rfl, hh⟩ := enSrc_of m1 r q
          refine ⟨a, ws, 0, .inl ⟨rfl, rfl⟩, ?_⟩
          rcases hh with ⟨hq, hj⟩ | ⟨hq, hj⟩
          · exact .inl ⟨hq, h1 w1 _ rfl (Ext.refl _) m1 hj⟩
          · exact .inr ⟨hq, h1 w1 _ rfl (Ext.refl _) m1 hj⟩
        · exact h1.elim
    · rename_i u c
      cases r1 with
      | cons r t =>
        cases t with
        | cons r2 t2 =>
          cases t2
          cases r2
          split at h1
          · rename_i hc
            have hc : c.natAbs ≤ 1000000 := Nat.le_of_ble_eq_true hc
            split at h1
            · rename_i s q
              obtain ⟨a, ws, rfl, hh⟩ := enSrc_of m1 r q
              have e63 : (2 : Int) ^ 63 = 9223372036854775808 := by decide
              refine ⟨a, ws, c, .inr ⟨rfl, by omega, by omega⟩, ?_⟩
              rcases hh with ⟨hq, hj⟩ | ⟨hq, hj⟩
              · exact .inl ⟨hq, h1 w1 _ rfl (Ext.refl _) m1 hj⟩
              · exact .inr ⟨hq, h1 w1 _ rfl (Ext.refl _) m1 hj⟩
            · exact h1.elim
          · exact h1.elim
    · exact h1.elim
/-- zip(x, y): two tuples, or two lists that nobody changes -/
def izip (fa : EvA) : EvI := fun us h => (fa us h).bind fun xs h1 => match xs with
  | [.tup xs, .tup ys] => .ok (.fix (zipU xs ys)) h1
  | [.fl xs, .fl ys] => .ok (.fix (zipU xs ys)) h1
  | _ => .no
theorem i_zip {e2 : Expr} {elts : List Expr} {kk : Nat} (hK : X.K = G.K) (hg : Gl X "zip") (hm : X.mg "zip" = none) (ha : PA X [e, e2] (tA G fa W))
    (hs : starEach [e, e2] X.env = (false, eval e X.env) :: starEach [e2] X.env := by rfl) (hpl : (backTo pos (starEach [e2] X.env)).any (·.1) = false := by rfl) :
    PI X (.Tuple elts kk tpos) (.Call (.Name "zip" p) [e, e2] [] pos) (tI G (izip fa) W) :=
  PI.imp (RZ.pi_zipA hg hm ha hs hpl) fun σ _ Rr ⟨us, w, e, m, sl, h⟩ => by
    subst e
    refine ⟨us, w, rfl, m, sl, (Pt.bind (Rel := RL G) h).imp ?_⟩
    rintro vs H1 ⟨w1, xs, rfl, e1, m1, r1, h1⟩
    rw [hK]
    split at h1
    · rename_i xs ys
      cases r1 with
      | cons r t =>
        cases t with
        | cons r2 t2 =>
          cases t2
          cases r with
          | @tup a _ vs g1 l1 =>
            cases r2 with
            | @tup b _ ws g2 l2 =>
              refine ⟨a, b, vs, ws, rfl, .inr ⟨g1.1, g2.1, h1 w1 _ rfl (Ext.refl _) m1 fun w' e m' i => ?_⟩⟩
              show (match some (zipU xs ys)[i]? with | some (some u) => _ | some none => _ | none => True)
              rw [zipU_get]
              have := zip_step m' (S1 := fun H xs => SqT G.K H a xs) (S2 := fun H xs => SqT G.K H b xs) (e.sqT g1.1) (e.sqT g2.1) (l1.up m1 e) (l2.up m1 e) i
              split at this <;> (rename_i q; rw [q]; exact this)
    · rename_i xs ys
      cases r1 with
      | cons r t =>
        cases t with
        | cons r2 t2 =>
          cases t2
          cases r with
          | @fl a _ vs g1 n1 l1 =>
            cases r2 with
            | @fl b _ ws g2 n2 l2 =>
              refine ⟨a, b, vs, ws, rfl, .inl ⟨.inl (.inl g1), .inl (.inl g2), h1 w1 _ rfl (Ext.refl _) m1 fun w' e m' i => ?_⟩⟩
              show (match some (zipU xs ys)[i]? with | some (some u) => _ | some none => _ | none => True)
              rw [zipU_get]
              have := zip_step m' (S1 := fun H xs => SqL G.K H a xs) (S2 := fun H xs => SqL G.K H b xs) (.inl (.inl (e.keep _ _ g1 (.inl fun q => n1 (m1.z _ q))))) (.inl (.inl (e.keep _ _ g2 (.inl fun q => n2 (m1.z _ q))))) (l1.up m1 e) (l2.up m1 e) i
              split at this <;> (rename_i q; rw [q]; exact this)
    · exact h1.elim
end
/-! ### for -/
def forL (tg : Tgt) (body : Sv) : List U → Lo → List UO → Rt
  | [], us, h => .nx us h
  | x :: r, us, h => match tg x us with
    | none => .no
    | some us1 => match body us1 h with
      | .nx us2 h2 => forL tg body r us2 h2
      | .ct us2 h2 => forL tg body r us2 h2
      | .bk us2 h2 => .nx us2 h2
      | q => q
def forD (it : Nat → List UO → Option (Option U)) (tg : Tgt) (body : Sv) : Nat → Nat → Lo → List UO → Rt
  | 0, _, _, _ => .no
  | n + 1, i, us, h => match it i h with
    | none => .no
    | some none => .nx us h
    | some (some x) => match tg x us with
      | none => .no
      | some us1 => match body us1 h with
        | .nx us2 h2 => forD it tg body n (i + 1) us2 h2
        | .ct us2 h2 => forD it tg body n (i + 1) us2 h2
        | .bk us2 h2 => .nx us2 h2
        | q => q
def gFor (fi : EvI) (tg : Tgt) (body : Sv) : Sv := fun us h => (fi us h).then us fun s h1 => match s with
  | .fix xs => forL tg body xs us h1
  | .dyn it => forD it tg body 100000 0 us h1
section
variable {X : Cx} {G : Cfg} {W : WX} {D : Ends} {tg : Tgt} {slots : List Nat} {body : Sv}
/-- one turn: the target, then the body -/
theorem turn_ok {w : Wd} {us us1 : Lo} {σ : L2.St} {u : U} {x : V} {N : L2.St → Hp → Prop} (m : Sm G w) (sl : SL G w us σ) (r : R G w u x) (q : tg u us = some us1)
    (h : PtS G W w (body us1 w.h) { D with nx := N, ct := N, bk := D.nx }) : tG G tg slots x σ w.H fun σ2 H2 => tS G body W { D with nx := N, ct := N, bk := D.nx } σ2 H2 := by
  refine ⟨u, us, w, rfl, m, sl, r, ?_⟩
  rw [q]
  exact fun σ' sl' _ => ⟨us1, w, rfl, m, sl', h⟩
theorem for_fix {w0 : Wd} {xs : List U} {J : It} {us : Lo} {σ : L2.St} (m0 : Sm G w0) (sl0 : SL G w0 us σ) (hJ : JR G w0 (.fix xs) J) (h : PtS G W w0 (forL tg body xs us w0.h) D) :
    ∃ Wd : Nat → Nat → L2.St → Hp → Prop, (∃ m, Wd 0 m σ w0.H) ∧ ∀ i m σ H, Wd i m σ H →
      (J.stop i H ∧ D.nx σ H) ∨ (J.go i H ∧ ∃ N : L2.St → Hp → Prop, (∀ σ' H', N σ' H' → ∃ m', m' < m ∧ Wd (i + 1) m' σ' H') ∧ ∀ x H', J.yld i H x H' → tG G tg slots x σ H' fun σ2 H2 => tS G body W { D with nx := N, ct := N, bk := D.nx } σ2 H2) := by
  refine ⟨fun i m σ H => ∃ us w, w.H = H ∧ Ext w0 w ∧ Sm G w ∧ SL G w us σ ∧ m + i = xs.length ∧ PtS G W w (forL tg body (xs.drop i) us w.h) D, ⟨xs.length, us, w0, rfl, Ext.refl _, m0, sl0, rfl, h⟩, ?_⟩
  rintro i n σ _ ⟨us, w, rfl, e, m, sl, hl, h⟩
  have hj := hJ w e m i
  have hj : (match some xs[i]? with | some (some u) => _ | some none => _ | none => True) := hj
  cases q : xs[i]? with
  | none =>
    rw [q] at hj
    have hd : xs.drop i = [] := List.drop_eq_nil_of_le (List.getElem?_eq_none_iff.mp q)
    rw [hd] at h
    exact .inl ⟨hj, h w σ rfl (Ext.refl _) m sl⟩
  | some u =>
    rw [q] at hj
    obtain ⟨go, yld⟩ := hj
    obtain ⟨hi, ei⟩ := List.getElem?_eq_some_iff.mp q
    have hd : xs.drop i = u :: xs.drop (i + 1) := by rw [List.drop_eq_getElem_cons hi, ei]
    rw [hd] at h
    refine .inr ⟨go, fun σ' H' => ∃ us w, w.H = H' ∧ Ext w0 w ∧ Sm G w ∧ SL G w us σ' ∧ (n - 1) + (i + 1) = xs.length ∧ PtS G W w (forL tg body (xs.drop (i + 1)) us w.h) D, fun σ' H' hN => ⟨n - 1, by omega, hN⟩, fun x H' hy => ?_⟩
    obtain ⟨w2, rfl, eh, e2, m2, r2⟩ := yld x H' hy
    unfold forL at h
    cases qt : tg u us with
    | none => rw [qt] at h; exact h.elim
    | some us1 =>
      rw [qt] at h
      dsimp only at h
      refine turn_ok m2 (sl.up m e2) r2 qt ?_
      rw [eh]
      have hn : n - 1 + (i + 1) = xs.length := by omega
      cases qb : body us1 w.h with
      | nx us2 h2 =>
        rw [qb] at h
        exact fun w' σ' a b c d => ⟨us2, w', rfl, (e.trans e2).trans b, c, d, hn, by rw [a]; exact PtS.weak (e2.trans b) h⟩
      | ct us2 h2 =>
        rw [qb] at h
        exact fun w' σ' a b c d => ⟨us2, w', rfl, (e.trans e2).trans b, c, d, hn, by rw [a]; exact PtS.weak (e2.trans b) h⟩
      | bk us2 h2 =>
        rw [qb] at h
        exact fun w' σ' a b c d => h w' σ' a (e2.trans b) c d
      | rt u2 h2 =>
        rw [qb] at h
        exact fun w' v a b c d => h w' v a (e2.trans b) c d
      | ex x2 us2 h2 =>
        rw [qb] at h
        exact fun w' σ' cls d2 a b c d => h w' σ' cls d2 a (e2.trans b) c d
      | no => rw [qb] at h; exact h
theorem for_dyn {w0 : Wd} {it : Nat → List UO → Option (Option U)} {J : It} {us : Lo} {σ : L2.St} {fuel : Nat} (m0 : Sm G w0) (sl0 : SL G w0 us σ) (hJ : JR G w0 (.dyn it) J) (h : PtS G W w0 (forD it tg body fuel 0 us w0.h) D) :
    ∃ Wd : Nat → Nat → L2.St → Hp → Prop, (∃ m, Wd 0 m σ w0.H) ∧ ∀ i m σ H, Wd i m σ H →
      (J.stop i H ∧ D.nx σ H) ∨ (J.go i H ∧ ∃ N : L2.St → Hp → Prop, (∀ σ' H', N σ' H' → ∃ m', m' < m ∧ Wd (i + 1) m' σ' H') ∧ ∀ x H', J.yld i H x H' → tG G tg slots x σ H' fun σ2 H2 => tS G body W { D with nx := N, ct := N, bk := D.nx } σ2 H2) := by
  refine ⟨fun i m σ H => ∃ us w, w.H = H ∧ Ext w0 w ∧ Sm G w ∧ SL G w us σ ∧ PtS G W w (forD it tg body m i us w.h) D, ⟨fuel, us, w0, rfl, Ext.refl _, m0, sl0, h⟩, ?_⟩
  rintro i n σ _ ⟨us, w, rfl, e, m, sl, h⟩
  have hj := hJ w e m i
  have hj : (match it i w.h with | some (some u) => _ | some none => _ | none => True) := hj
  cases n with
  | zero => exact h.elim
  | succ n =>
    unfold forD at h
    cases q : it i w.h with
    | none => rw [q] at h; exact h.elim
    | some o =>
      rw [q] at h hj
      cases o with
      | none => exact .inl ⟨hj, h w σ rfl (Ext.refl _) m sl⟩
      | some u =>
        obtain ⟨go, yld⟩ := hj
        dsimp only at h
        refine .inr ⟨go, fun σ' H' => ∃ us w, w.H = H' ∧ Ext w0 w ∧ Sm G w ∧ SL G w us σ' ∧ PtS G W w (forD it tg body n (i + 1) us w.h) D, fun σ' H' hN => ⟨n, Nat.lt_succ_self _, hN⟩, fun x H' hy => ?_⟩
        obtain ⟨w2, rfl, eh, e2, m2, r2⟩ := yld x H' hy
        cases qt : tg u us with
        | none => rw [qt] at h; exact h.elim
        | some us1 =>
          rw [qt] at h
          dsimp only at h
          refine turn_ok m2 (sl.up m e2) r2 qt ?_
          rw [eh]
          cases qb : body us1 w.h with
          | nx us2 h2 =>
            rw [qb] at h
            exact fun w' σ' a b c d => ⟨us2, w', rfl, (e.trans e2).trans b, c, d, by rw [a]; exact PtS.weak (e2.trans b) h⟩
          | ct us2 h2 =>
            rw [qb] at h
            exact fun w' σ' a b c d => ⟨us2, w', rfl, (e.trans e2).trans b, c, d, by rw [a]; exact PtS.weak (e2.trans b) h⟩
          | bk us2 h2 =>
            rw [qb] at h
            exact fun w' σ' a b c d => h w' σ' a (e2.trans b) c d
          | rt u2 h2 =>
            rw [qb] at h
            exact fun w' v a b c d => h w' v a (e2.trans b) c d
          | ex x2 us2 h2 =>
            rw [qb] at h
            exact fun w' σ' cls d2 a b c d => h w' σ' cls d2 a (e2.trans b) c d
          | no => rw [qb] at h; exact h
theorem s_for {t iter : Expr} {bd : List Stmt} {fi : EvI} {pos : Pos} (hp : PassesOwn (model X.prog X.w) X.A X.env X.xe) (hc : X.calm = true) (hi : PI X t iter (tI G fi W)) (hg : PG X t (tG G tg slots)) (hb : PSs X bd (tS G body W))
    (hs : ∀ x, foldedSetIterable iter X.env x = pure x := by intro _; rfl) : PS X (.For t iter bd [] pos) (tS G (gFor fi tg body) W) :=
  PS.imp (ps_for hp hc hi hg hb hs) fun D σ _ ⟨us, w, e, m, sl, h⟩ => by
    subst e
    refine ⟨us, w, rfl, m, sl, (PtS.then (Rel := JR G) m sl h).imp ?_⟩
    rintro J H1 ⟨w1, s, rfl, e1, m1, hJ, sl1, h1⟩
    cases s with
    | fix xs => exact for_fix m1 sl1 hJ h1
    | dyn it => exact for_dyn m1 sl1 hJ h1
/-- while -/
def whileE (c : EvB) (body : Sv) : Nat → Lo → List UO → Rt
  | 0, _, _ => .no
  | n + 1, us, h => (c us h).then us fun b h1 => match b with
    | false => .nx us h1
    | true => match body us h1 with
      | .nx us2 h2 => whileE c body n us2 h2
      | .ct us2 h2 => whileE c body n us2 h2
      | .bk us2 h2 => .nx us2 h2
      | q => q
def gWhile (c : EvB) (body : Sv) : Sv := fun us h => whileE c body 100000 us h
theorem s_while {c : Expr} {bd : List Stmt} {fc : EvB} {pos : Pos} (hp : PassesOwn (model X.prog X.w) X.A X.env X.xe) (hc : PT X c (tT G fc W)) (hb : PSs X bd (tS G body W)) : PS X (.While c bd [] pos) (tS G (gWhile fc body) W) :=
  PS.imp (ps_while hp hc hb) fun D σ _ ⟨us, w, e, m, sl, h⟩ => by
    subst e
    refine ⟨fun n σ H => ∃ us w, w.H = H ∧ Sm G w ∧ SL G w us σ ∧ PtS G W w (whileE fc body n us w.h) D, ⟨100000, us, w, rfl, m, sl, h⟩, ?_⟩
    rintro n σ _ ⟨us, w, rfl, m, sl, h⟩
    cases n with
    | zero => exact h.elim
    | succ n =>
      unfold whileE at h
      refine ⟨us, w, rfl, m, sl, (PtS.then (Rel := fun _ (a b : Bool) => a = b) m sl h).imp ?_⟩
      rintro b H1 ⟨w1, b', rfl, e1, m1, rfl, sl1, h1⟩
      cases b' with
      | false => exact h1 w1 σ rfl (Ext.refl _) m1 sl1
      | true =>
        rw [if_pos rfl]
        dsimp only at h1
        refine ⟨fun σ' H' => ∃ us w, w.H = H' ∧ Sm G w ∧ SL G w us σ' ∧ PtS G W w (whileE fc body n us w.h) D, fun σ' H' hN => ⟨n, Nat.lt_succ_self _, hN⟩, us, w1, rfl, m1, sl1, ?_⟩
        cases qb : body us w1.h with
        | nx us2 h2 =>
          rw [qb] at h1
          exact fun w' σ' a b c d => ⟨us2, w', rfl, c, d, by rw [a]; exact PtS.weak b h1⟩
        | ct us2 h2 =>
          rw [qb] at h1
          exact fun w' σ' a b c d => ⟨us2, w', rfl, c, d, by rw [a]; exact PtS.weak b h1⟩
        | bk us2 h2 => rw [qb] at h1; exact h1
        | rt u2 h2 => rw [qb] at h1; exact h1
        | ex x2 us2 h2 => rw [qb] at h1; exact h1
        | no => rw [qb] at h1; exact h1
end
end Fn
namespace Fn
open PySem L2
/-! ### list comprehensions -/
def W0 : WX := fun _ _ _ _ => False
def lcL (tg : Tgt) (tests : EvB) (elt : Ev) (us : Lo) : List U → List UO → Rs (List U)
  | [], h => .ok [] h
  | x :: r, h => match tg x us with
    | none => .no
    | some us1 => match tests us1 h with
      | .ok true h1 => (match elt us1 h1 with
        | .ok y h2 => (match lcL tg tests elt us r h2 with | .ok ys h3 => .ok (y :: ys) h3 | _ => .no)
        | _ => .no)
      | .ok false h1 => lcL tg tests elt us r h1
      | _ => .no
def lcD (it : Nat → List UO → Option (Option U)) (tg : Tgt) (tests : EvB) (elt : Ev) (us : Lo) : Nat → Nat → List UO → Rs (List U)
  | 0, _, _ => .no
  | n + 1, i, h => match it i h with
    | none => .no
    | some none => .ok [] h
    | some (some x) => match tg x us with
      | none => .no
      | some us1 => match tests us1 h with
        | .ok true h1 => (match elt us1 h1 with
          | .ok y h2 => (match lcD it tg tests elt us n (i + 1) h2 with | .ok ys h3 => .ok (y :: ys) h3 | _ => .no)
          | _ => .no)
        | .ok false h1 => lcD it tg tests elt us n (i + 1) h1
        | _ => .no
def lcS (tg : Tgt) (tests : EvB) (elt : Ev) (us : Lo) (s : Src) (h : List UO) : Rs (List U) := match s with
  | .fix xs => lcL tg tests elt us xs h
  | .dyn it => lcD it tg tests elt us 100000 0 h
def eLc (fi : EvI) (tg : Tgt) (tests : EvB) (elt : Ev) (vs : List Nat) : EvL := fun us h => (fi us h).bind fun s h1 =>
  match lcS tg tests elt (wipeU us vs) s h1 with
  | .ok ys h2 => (match Nat.blt ys.length 16777216 with | true => .ok ys h2 | false => .no)
  | _ => .no
def bYes : EvB := fun _ h => .ok true h
section
variable {G : Cfg} {w : Wd} {D : Addr}
/-- the new list, that no value of ours leans on, is changed -/
theorem putZ {xs ys : List V} (m : Sm G w) (hD : w.H D = some (.lst xs)) (hz : w.Z D) (hr : D ∉ w.r) :
    Mon G w { w with H := upd w.H D (.lst ys) } ∧ Sm G { w with H := upd w.H D (.lst ys) } ∧ ∀ w0 : Wd, Ext w0 w → w0.H D = none → Ext w0 { w with H := upd w.H D (.lst ys) } := by
  have ne : ∀ {a : Addr} {o : HO}, w.H a = some o → (∀ vs, o ≠ .lst vs) → a ≠ D := fun {a o} h hn z => by
    rw [z, hD] at h
    exact hn _ (Option.some.inj h).symm
  have mon : Mon G w { w with H := upd w.H D (.lst ys) } := by
    refine ⟨fun a vs h => ?_, fun a vs h n => ⟨?_, n⟩, fun a o u h => ?_, fun a C dx fs h n => ⟨?_, n⟩, fun i a h => h⟩
    · refine ⟨?_, h.2.imp id fun q => by show upd w.H D _ a = _; rw [upd_ne (ne q (fun _ z => nomatch z))]; exact q⟩
      rcases h.1 with (h | ⟨o, h⟩) | h
      · exact .inl (.inl (by show upd w.H D _ a = _; rw [upd_ne (ne h (fun _ z => nomatch z))]; exact h))
      · exact .inl (.inr ⟨o, by show upd w.H D _ a = _; rw [upd_ne (ne h (fun _ z => nomatch z))]; exact h⟩)
      · exact .inr h
    · show upd w.H D _ a = _
      rw [upd_ne (fun z : a = D => n (by rw [z]; exact hz))]; exact h
    · show upd w.H D _ a = _
      rw [upd_ne (ne h (fun _ z => nomatch z))]; exact h
    · show upd w.H D _ a = _
      rw [upd_ne (fun z : a = D => n (by rw [z]; exact hz))]; exact h
  refine ⟨mon, ⟨m.len, m.nd, m.z, fun a h => ?_, fun i a o h1 h2 => ?_⟩, fun w0 e h0 => ⟨e.nw, e.zi, e.zs, fun a o h hi => ?_, fun a h => ?_⟩⟩
  · show upd w.H D _ a ≠ none
    by_cases z : a = D
    · subst z; rw [upd_same]; simp
    · rw [upd_ne z]; exact m.dom a h
  · have ha : a ≠ D := fun z => hr (z ▸ List.mem_of_getElem? h1)
    have hk : ∀ {x : HO}, w.H a = some x → upd w.H D (.lst ys) a = some x := fun h => by rw [upd_ne ha]; exact h
    cases m.obj i a o h1 h2 with
    | lst h l => exact .lst (hk h) (l.mon mon)
    | dk h l => exact .dk (hk h) (l.mon mon)
    | dt h l => exact .dt (hk h) (l.mon mon)
    | ins h hl l => exact .ins (hk h) hl (l.mon mon)
  · show upd w.H D _ a = _
    rw [upd_ne (ne_of_none h h0)]; exact e.keep a o h hi
  · have h : upd w.H D (.lst ys) a = none := h
    by_cases z : a = D
    · subst z; rw [upd_same] at h; cases h
    · rw [upd_ne z] at h; exact e.dom a h
theorem wipe_get : ∀ (σ : L2.St) (vs : List Nat) (j : Nat), j ∉ vs → (L2.wipe σ vs)[j]? = σ[j]?
  | _, [], _, _ => rfl
  | σ, v :: vs, j, h => by
    rw [List.mem_cons, not_or] at h
    show ((L2.wipe σ vs).set v none)[j]? = _
    rw [List.getElem?_set_ne (fun z => h.1 z.symm)]
    exact wipe_get σ vs j h.2
theorem wipe_in : ∀ (σ : L2.St) (vs : List Nat) (j : Nat), j ∈ vs → j < σ.length → (L2.wipe σ vs)[j]? = some none
  | _, [], _, h, _ => nomatch h
  | σ, v :: vs, j, h, hl => by
    show ((L2.wipe σ vs).set v none)[j]? = _
    by_cases hj : v = j
    · subst hj
      exact List.getElem?_set_self (by rw [wipe_length]; exact hl)
    · rw [List.getElem?_set_ne hj]
      exact wipe_in σ vs j ((List.mem_cons.mp h).resolve_left fun z => hj z.symm) hl
theorem wipe_eq {σ σ' : L2.St} {vs sl : List Nat} (hl : σ'.length = (L2.wipe σ vs).length) (ag : ∀ j, j ∉ sl → σ'[j]? = (L2.wipe σ vs)[j]?) (hs : ∀ j ∈ sl, j ∈ vs) : L2.wipe σ' vs = L2.wipe σ vs := by
  have hl' : σ'.length = σ.length := by rw [hl, wipe_length]
  refine List.ext_getElem? fun j => ?_
  by_cases hj : j ∈ vs
  · by_cases hjl : j < σ.length
    · rw [wipe_in σ vs j hj hjl, wipe_in σ' vs j hj (by omega)]
    · rw [List.getElem?_eq_none (by rw [wipe_length]; omega), List.getElem?_eq_none (by rw [wipe_length]; omega)]
  · rw [wipe_get σ' vs j hj, ag j fun z => hj (hs j z)]
end
section
variable {G : Cfg} {W : WX} {tg : Tgt} {sl vs : List Nat} {tests : EvB} {elt : Ev} {us : Lo} {σ : L2.St} {Q : VK}
theorem lc_gen {w0 w1 : Wd} {src : Src} {J : It} {D : Addr} {F : Nat → Nat → List UO → Rs (List U)} {M : Nat} {total : List U} {hEnd : List UO} (m0 : Sm G w0) (e01 : Ext w0 w1) (m1 : Sm G w1) (sl1 : SL G w1 us σ) (hJ : JR G w1 src J) (hD : w1.H D = none)
    (hF : ∀ m i h ys h', F m i h = .ok ys h' → (src.at i h = some none ∧ ys = [] ∧ h' = h) ∨ ∃ m', m' < m ∧ ∃ u us1, src.at i h = some (some u) ∧ tg u (wipeU us vs) = some us1 ∧
      ((∃ h1, tests us1 h = .ok false h1 ∧ F m' (i + 1) h1 = .ok ys h') ∨ ∃ h1 y h2 ys', tests us1 h = .ok true h1 ∧ elt us1 h1 = .ok y h2 ∧ F m' (i + 1) h2 = .ok ys' h' ∧ ys = y :: ys'))
    (h0 : F M 0 w1.h = .ok total hEnd) (hlen : total.length < 16777216) (hsl : ∀ j ∈ sl, j ∈ vs) (h : PtN G W σ w0 (.ok total hEnd) Q) :
    ∃ Wc : Nat → Nat → Hp → Prop, (∃ m, Wc 0 m (upd w1.H D (.lst []))) ∧ ∀ i m H, Wc i m H →
      (J.stop i H ∧ Q (.ref D) H) ∨ (J.go i H ∧ ∃ Nx : Hp → Prop, (∀ H', Nx H' → ∃ m', m' < m ∧ Wc (i + 1) m' H') ∧ ∀ x H', J.yld i H x H' → tG G tg sl x (L2.wipe σ vs) H' fun σ2 H2 => L2.wipe σ2 vs = L2.wipe σ vs ∧ tT G tests W0 σ2 H2 fun b H3 =>
        if b = true then tE G elt W0 σ2 H3 fun y H4 => ∃ acc, H4 D = some (.lst acc) ∧ acc.length < sizeLine ∧ Nx (upd H4 D (.lst (acc ++ [y]))) else Nx H3) := by
  -- the world of a turn
  let Tw (w : Wd) (acc : List U) (accV : List V) : Prop := Ext w1 w ∧ Sm G w ∧ w.H D = some (.lst accV) ∧ w.Z D ∧ D ∉ w.r ∧ RL G w acc accV
  have step : ∀ {w w2 : Wd} {acc : List U} {accV : List V}, Tw w acc accV → Ext w w2 → Sm G w2 → Tw w2 acc accV := by
    rintro w w2 acc accV ⟨e, m, hd, hz, hr, l⟩ e2 m2
    refine ⟨e.trans e2, m2, e2.keep _ _ hd (.inl hr), e2.zs _ hz, fun hm => ?_, l.up m e2⟩
    obtain ⟨nw, q1, q2⟩ := e2.nw
    rw [q1] at hm
    rcases List.mem_append.mp hm with q | q
    · exact hr q
    · rw [q2 _ q] at hd; cases hd
  refine ⟨fun i m H => ∃ w acc accV ys, w.H = H ∧ Tw w acc accV ∧ F m i w.h = .ok ys hEnd ∧ acc ++ ys = total, ⟨M, w1.newZ D (.lst []), [], [], total, rfl, ⟨Ext.newZ hD, m1.newZ hD, upd_same, .inr rfl, m1.free_r hD, .nil⟩, h0, rfl⟩, ?_⟩
  rintro i m _ ⟨w, acc, accV, ys, rfl, tw, hf, et⟩
  obtain ⟨e, mw, hd, hz, hr, l⟩ := id tw
  have hj := hJ w e mw i
  rcases hF m i w.h ys hEnd hf with ⟨ha, rfl, eh⟩ | ⟨m', hm, u, us1, ha, ht, hc⟩
  · rw [ha] at hj
    refine .inl ⟨hj, ?_⟩
    rw [List.append_nil] at et
    subst et
    exact h w D accV eh.symm (e01.trans e) mw l hd (e01.dom _ hD) hz hr
  · rw [ha] at hj
    obtain ⟨go, yld⟩ := hj
    refine .inr ⟨go, fun H' => ∃ w acc accV ys, w.H = H' ∧ Tw w acc accV ∧ F m' (i + 1) w.h = .ok ys hEnd ∧ acc ++ ys = total, fun H' hN => ⟨m', hm, hN⟩, fun x H' hy => ?_⟩
    obtain ⟨w2, rfl, eh, e2, m2, r2⟩ := yld x H' hy
    have tw2 := step tw e2 m2
    refine ⟨u, wipeU us vs, w2, rfl, m2, ((sl1.up m1 (e.trans e2)).wipe vs), r2, ?_⟩
    rw [ht]
    intro σ2 sl2 ag
    refine ⟨?_, us1, w2, rfl, m2, sl2, ?_⟩
    · exact wipe_eq ag.1 ag.2 hsl
    · rw [eh]
      rcases hc with ⟨h1, q1, q2⟩ | ⟨h1, y, h2, ys', q1, q2, q3, q4⟩
      · rw [q1]
        rintro w3 b a e3 m3 rfl
        rw [if_neg (by decide)]
        subst a
        exact ⟨w3, acc, accV, ys, rfl, step tw2 e3 m3, q2, et⟩
      · rw [q1]
        rintro w3 b a e3 m3 rfl
        rw [if_pos rfl]
        subst a
        have tw3 := step tw2 e3 m3
        refine ⟨us1, w3, rfl, m3, sl2.up m2 e3, ?_⟩
        rw [q2]
        rintro w4 v a4 e4 m4 r4
        obtain ⟨f1, f2, f3, f4, f5, f6⟩ := step tw3 e4 m4
        subst a4 q4
        refine ⟨accV, f3, ?_, ?_⟩
        · rw [← f6.length, sizeLine_eq]
          rw [← et, List.length_append, List.length_cons] at hlen
          omega
        · obtain ⟨mon, sm, ex⟩ := putZ (ys := accV ++ [v]) m4 f3 f4 f5
          exact ⟨_, acc ++ [y], accV ++ [v], ys', rfl, ⟨ex w1 f1 hD, sm, upd_same, f4, f5, (f6.append (.one r4)).mon mon⟩, q3, by rw [List.append_assoc]; exact et⟩
end
section
variable {G : Cfg} {W : WX} {tg : Tgt} {sl vs : List Nat} {tests : EvB} {elt : Ev} {us : Lo}
theorem lcL_F {xs : List U} : ∀ m i h ys h', (if m + i = xs.length then lcL tg tests elt (wipeU us vs) (xs.drop i) h else .no) = Rs.ok ys h' →
    ((Src.fix xs).at i h = some none ∧ ys = [] ∧ h' = h) ∨ ∃ m', m' < m ∧ ∃ u us1, (Src.fix xs).at i h = some (some u) ∧ tg u (wipeU us vs) = some us1 ∧
      ((∃ h1, tests us1 h = .ok false h1 ∧ (if m' + (i + 1) = xs.length then lcL tg tests elt (wipeU us vs) (xs.drop (i + 1)) h1 else .no) = Rs.ok ys h') ∨
        ∃ h1 y h2 ys', tests us1 h = .ok true h1 ∧ elt us1 h1 = .ok y h2 ∧ (if m' + (i + 1) = xs.length then lcL tg tests elt (wipeU us vs) (xs.drop (i + 1)) h2 else .no) = Rs.ok ys' h' ∧ ys = y :: ys') := by
  intro m i h ys h' e
  split at e
  · rename_i hm
    show (some xs[i]? = some none ∧ _) ∨ _
    cases q : xs[i]? with
    | none =>
      rw [List.drop_eq_nil_of_le (List.getElem?_eq_none_iff.mp q)] at e
      unfold lcL at e
      cases e
      exact .inl ⟨rfl, rfl, rfl⟩
    | some u =>
      obtain ⟨hi, ei⟩ := List.getElem?_eq_some_iff.mp q
      have hm' : m - 1 + (i + 1) = xs.length := by omega
      rw [List.drop_eq_getElem_cons hi, ei] at e
      unfold lcL at e
      split at e
      · cases e
      · rename_i us1 qt
        refine .inr ⟨m - 1, by omega, u, us1, by show some xs[i]? = _; rw [q], qt, ?_⟩
        simp only [if_pos hm']
        split at e
        · rename_i h1 q1
          split at e
          · rename_i y h2 q2
            split at e
            · rename_i ys' h3 q3
              cases e
              exact .inr ⟨h1, y, h2, ys', q1, q2, q3, rfl⟩
            · cases e
          · cases e
        · rename_i h1 q1
          exact .inl ⟨h1, q1, e⟩
        · cases e
  · cases e
theorem lcD_F {it : Nat → List UO → Option (Option U)} : ∀ m i h ys h', lcD it tg tests elt (wipeU us vs) m i h = Rs.ok ys h' →
    ((Src.dyn it).at i h = some none ∧ ys = [] ∧ h' = h) ∨ ∃ m', m' < m ∧ ∃ u us1, (Src.dyn it).at i h = some (some u) ∧ tg u (wipeU us vs) = some us1 ∧
      ((∃ h1, tests us1 h = .ok false h1 ∧ lcD it tg tests elt (wipeU us vs) m' (i + 1) h1 = Rs.ok ys h') ∨
        ∃ h1 y h2 ys', tests us1 h = .ok true h1 ∧ elt us1 h1 = .ok y h2 ∧ lcD it tg tests elt (wipeU us vs) m' (i + 1) h2 = Rs.ok ys' h' ∧ ys = y :: ys') := by
  intro m i h ys h' e
  cases m with
  | zero => cases e
  | succ n =>
    unfold lcD at e
    show (it i h = some none ∧ _) ∨ _
    split at e
    · cases e
    · rename_i q
      cases e
      exact .inl ⟨q, rfl, rfl⟩
    · rename_i u q
      split at e
      · cases e
      · rename_i us1 qt
        refine .inr ⟨n, Nat.lt_succ_self _, u, us1, q, qt, ?_⟩
        split at e
        · rename_i h1 q1
          split at e
          · rename_i y h2 q2
            split at e
            · rename_i ys' h3 q3
              cases e
              exact .inr ⟨h1, y, h2, ys', q1, q2, q3, rfl⟩
            · cases e
          · cases e
        · rename_i h1 q1
          exact .inl ⟨h1, q1, e⟩
        · cases e
theorem tLc_of {fi : EvI} {σ : L2.St} {H : Hp} {Q : VK} (hsl : ∀ j ∈ sl, j ∈ vs) (h : tN G (eLc fi tg tests elt vs) W σ H Q) : tLc (tI G fi W) (tG G tg sl) (tT G tests W0) (tE G elt W0) vs σ H Q := by
  obtain ⟨us, w, rfl, m, sl0, h⟩ := h
  refine ⟨us, w, rfl, m, sl0, (PtN.bind (Rel := JR G) h).imp ?_⟩
  rintro J H1 ⟨w1, src, rfl, e1, m1, hJ, h1⟩
  intro D hD
  split at h1
  · rename_i ys hEnd q
    split at h1
    · rename_i hl
      have hl : ys.length < 16777216 := Nat.le_of_ble_eq_true hl
      cases src with
      | fix xs =>
        refine lc_gen (F := fun m i h => if m + i = xs.length then lcL tg tests elt (wipeU us vs) (xs.drop i) h else .no) (M := xs.length) m e1 m1 (sl0.up m e1) hJ hD lcL_F ?_ hl hsl h1
        show (if xs.length + 0 = xs.length then _ else _) = _
        rw [if_pos (by omega)]
        exact q
      | dyn it => exact lc_gen (F := lcD it tg tests elt (wipeU us vs)) (M := 100000) m e1 m1 (sl0.up m e1) hJ hD lcD_F q hl hsl h1
    · exact h1.elim
  · exact h1.elim
end
section
variable {X : Cx} {G : Cfg} {W : WX} {elt tgt iter : Expr} {ifs : List Expr} {scope : Scope} {own : List (Str × Nat)} {pos : Pos} {fi : EvI} {tg : Tgt} {sl : List Nat} {tests : EvB} {fe : Ev}
theorem ts_nil : PTs X [] (tT G bYes W) := PTs.imp pts_nil fun _ _ _ ⟨us, w, e, m, sl, h⟩ => by
  subst e
  exact h w true rfl (Ext.refl w) m rfl
theorem ts_one {c : Expr} {fc : EvB} (h : PT X c (tT G fc W)) : PTs X [c] (tT G fc W) := pts_one h
theorem f_lc (hc : X.calm = true) (hN : X.N.Nodup) (hi : PI X tgt iter (tI G fi W)) (ok : BlkOk X.N X.env.scope scope own)
    (hg : ∀ (s : Shared) (H : Hp) (C : Addr) (cl : List (Str × Addr)) (fp : List Addr), PG (X.blk s H scope (compEnvC scope cl C X.env) fp) tgt (tG G tg sl)) (ht : ∀ (s : Shared) (H : Hp) (C : Addr) (cl : List (Str × Addr)) (fp : List Addr), PTs (X.blk s H scope (compEnvC scope cl C X.env) fp) ifs (tT G tests W0))
    (he : ∀ (s : Shared) (H : Hp) (C : Addr) (cl : List (Str × Addr)) (fp : List Addr), PE (X.blk s H scope (compEnvC scope cl C X.env) fp) elt (tE G fe W0)) (hsl : ∀ j ∈ sl, j ∈ own.map (·.2)) (hs : ∀ x, foldedSetIterable iter X.env x = pure x := by intro _; rfl) :
    PE X (.ListComp elt [⟨tgt, iter, ifs, 0⟩] scope pos) (tN G (eLc fi tg tests fe (own.map (·.2))) W) :=
  PE.imp (pe_lc hc hN hi ok hg ht he hs) fun _ _ _ h => tLc_of hsl h
theorem s_setLcF {i : Nat} {y : Str} {py spos : Pos} (hc : X.calm = true) (hN : X.N.Nodup) (hy : X.N[i]? = some y) (hyl : X.env.scope.names.lookup y = some .local)
    (hsw : swapsWith (.ListComp elt [⟨tgt, iter, ifs, 0⟩] scope pos) (some (.Name y py)) spos.line X.env = pure true) (hi : PI X tgt iter (tI G fi W)) (ok : BlkOk X.N X.env.scope scope own)
    (hg : ∀ (s : Shared) (H : Hp) (C : Addr) (cl : List (Str × Addr)) (fp : List Addr), PG (X.blk s H scope (compEnvC scope cl C X.env) fp) tgt (tG G tg sl)) (ht : ∀ (s : Shared) (H : Hp) (C : Addr) (cl : List (Str × Addr)) (fp : List Addr), PTs (X.blk s H scope (compEnvC scope cl C X.env) fp) ifs (tT G tests W0))
    (he : ∀ (s : Shared) (H : Hp) (C : Addr) (cl : List (Str × Addr)) (fp : List Addr), PE (X.blk s H scope (compEnvC scope cl C X.env) fp) elt (tE G fe W0)) (hsl : ∀ j ∈ sl, j ∈ own.map (·.2)) (hs : ∀ x, foldedSetIterable iter X.env x = pure x := by intro _; rfl) :
    PS X (.Assign [.Name y py] (.ListComp elt [⟨tgt, iter, ifs, 0⟩] scope pos) spos) (tS G (gSet i (eF (eLc fi tg tests fe (own.map (·.2))))) W) :=
  PS.imp (ps_setLc hc hN hy hyl hsw hi ok hg ht he hs) fun D σ H h => tLc_of hsl (tN_eF (set_of h))
theorem s_setLcT {i : Nat} {y : Str} {py spos : Pos} (hc : X.calm = true) (hN : X.N.Nodup) (hy : X.N[i]? = some y) (hyl : X.env.scope.names.lookup y = some .local)
    (hsw : swapsWith (.ListComp elt [⟨tgt, iter, ifs, 0⟩] scope pos) (some (.Name y py)) spos.line X.env = pure true) (hi : PI X tgt iter (tI G fi W)) (ok : BlkOk X.N X.env.scope scope own)
    (hg : ∀ (s : Shared) (H : Hp) (C : Addr) (cl : List (Str × Addr)) (fp : List Addr), PG (X.blk s H scope (compEnvC scope cl C X.env) fp) tgt (tG G tg sl)) (ht : ∀ (s : Shared) (H : Hp) (C : Addr) (cl : List (Str × Addr)) (fp : List Addr), PTs (X.blk s H scope (compEnvC scope cl C X.env) fp) ifs (tT G tests W0))
    (he : ∀ (s : Shared) (H : Hp) (C : Addr) (cl : List (Str × Addr)) (fp : List Addr), PE (X.blk s H scope (compEnvC scope cl C X.env) fp) elt (tE G fe W0)) (hsl : ∀ j ∈ sl, j ∈ own.map (·.2)) (hs : ∀ x, foldedSetIterable iter X.env x = pure x := by intro _; rfl) :
    PS X (.Assign [.Name y py] (.ListComp elt [⟨tgt, iter, ifs, 0⟩] scope pos) spos) (tS G (gSet i (eT (eLc fi tg tests fe (own.map (·.2))))) W) :=
  PS.imp (ps_setLc hc hN hy hyl hsw hi ok hg ht he hs) fun D σ H h => tLc_of hsl (tN_eT (set_of h))
end
end Fn
namespace Fn
open PySem L2 PySem.Spec PyProof.Rows
/-! ### what a call hands back -/
/-- as it stands, nobody's any more -/
def frz : Nat → List UO → U → Option U
  | 0, _, _ => none
  | n + 1, h, u => match u with
    | .ref i => (match h[i]? with
      | some (.lst xs) => (match mapO (frz n h) xs with | some ys => some (.fl ys) | none => none)
      | _ => none)
    | .tup xs => (match mapO (frz n h) xs with | some ys => some (.tup ys) | none => none)
    | .fl xs => (match mapO (frz n h) xs with | some ys => some (.fl ys) | none => none)
    | .ob c xs => (match mapO (frz n h) xs with | some ys => some (.ob c ys) | none => none)
    | .tx xs => (match mapO (frz n h) xs with | some ys => some (.tx ys) | none => none)
    | u => some u
section
variable {G : Cfg} {w w' : Wd}
theorem frz_all {n : Nat} (ih : ∀ (u u' : U) (v : V), R G w u v → frz n w.h u = some u' → R G w' u' v) : ∀ {us us' : List U} {vs : List V}, RL G w us vs → mapO (frz n w.h) us = some us' → RL G w' us' vs
  | _, _, _, .nil, e => by cases e; exact .nil
  | u :: us, us', v :: vs, .cons r t, e => by
    unfold mapO at e
    split at e
    · rename_i y q1
      split at e
      · rename_i ys q2
        cases e
        exact .cons (ih u y v r q1) (frz_all ih t q2)
      · cases e
    · cases e
/-- what was made since then, or is nobody's, may be forgotten -/
theorem frz_of (hH : w'.H = w.H) (m : Sm G w) (hz : ∀ a, w'.Z a → w.Z a) (hr : ∀ a ∈ w.r, ¬ w'.Z a) : ∀ (n : Nat) (u u' : U) (v : V), R G w u v → frz n w.h u = some u' → R G w' u' v
  | 0, _, _, _, _, e => by cases e
  | n + 1, u, u', v, r, e => by
    have ih := frz_of hH m hz hr n
    unfold frz at e
    cases r with
    | non => cases e; exact .non
    | bl b => cases e; exact .bl b
    | int b => cases e; exact .int b
    | str b => cases e; exact .str b
    | ty b => cases e; exact .ty b
    | scr h => cases e; exact .scr (hH ▸ h)
    | tup h l =>
      dsimp only at e
      split at e
      · rename_i ys q
        cases e
        exact .tup (hH ▸ h) (frz_all ih l q)
      · cases e
    | tx h d l =>
      dsimp only at e
      split at e
      · rename_i ys q
        cases e
        exact .tx (hH ▸ h) d (frz_all ih l q)
      · cases e
    | fl h nz l =>
      dsimp only at e
      split at e
      · rename_i ys q
        cases e
        exact .fl (hH ▸ h) (fun z => nz (hz _ z)) (frz_all ih l q)
      · cases e
    | ob h nz hl l =>
      dsimp only at e
      split at e
      · rename_i ys q
        cases e
        exact .ob (hH ▸ h) (fun z => nz (hz _ z)) hl (frz_all ih l q)
      · cases e
    | @ref i a h =>
      dsimp only at e
      split at e
      · rename_i xs q
        split at e
        · rename_i ys q2
          cases e
          cases m.obj _ _ _ h q with
          | lst h2 l => exact .fl (hH ▸ h2) (hr _ (List.mem_of_getElem? h)) (frz_all ih l q2)
        · cases e
      · cases e
end
/-! ### a def whose arguments are nobody's: a plain function -/
abbrev Fg := List U → Rg
def PtG (G : Cfg) (w : Wd) (r : Rg) (Q : VK) (E : XK) : Prop :=
  match r with
  | .ok u => ∀ (w' : Wd) (v : V), w'.r = [] → w'.Z = w.Z → w'.h = [] → Ext w w' → Sm G w' → R G w' u v → Q v w'.H
  | .ex e => ∀ (w' : Wd) (cls : Value) (d : Option Addr), w'.r = [] → w'.Z = w.Z → w'.h = [] → Ext w w' → Sm G w' → RX G w' e cls d → E cls d w'.H
  | .no => False
def fnG (G : Cfg) (n : Nat) (f : Fg) : Sp := fun vs H Q E => vs.length = n ∧ ∃ us w, w.H = H ∧ w.r = [] ∧ w.h = [] ∧ Sm G w ∧ RL G w us vs ∧ PtG G w (f us) Q E
/-- a def that may change what it is handed -/
abbrev Fh := List U → List UO → Rs U
def fnH (G : Cfg) (n : Nat) (f : Fh) : Sp := fun vs H Q E => vs.length = n ∧ ∃ us w, w.H = H ∧ Sm G w ∧ RL G w us vs ∧ Pt G (R G) (fun cls d _ H => E cls d H) [] w (f us w.h) Q
def startU (n : Nat) (us : List U) : Lo := us.map some ++ List.replicate (n - us.length) none
def fin (r : Rt) : Rg := match r with
  | .rt u h => (match frz 8 h u with | some u' => .ok u' | none => .no)
  | .nx _ _ => .ok .non
  | .ex e _ h => (match e.fs with
    | [] => .ex e
    | fs => (match mapO (frz 8 h) fs with | some (f :: r) => .ex ⟨e.c, f :: r⟩ | _ => .no))
  | _ => .no
def finH (r : Rt) : Rs U := match r with
  | .rt u h => .ok u h
  | .nx _ h => .ok .non h
  | .ex e _ h => .ex e h
  | _ => .no
def runG (n : Nat) (body : Sv) : Fg := fun us => fin (body (startU n us) [])
def runH (n : Nat) (body : Sv) : Fh := fun us h => finH (body (startU n us) h)
section
variable {G : Cfg}
theorem start_sl {w : Wd} {us : List U} {vs : List V} {N : List Str} (l : RL G w us vs) : SL G w (startU N.length us) (L2.start N vs) := by
  unfold startU L2.start
  rw [← l.length]
  refine ⟨by simp [l.length], fun i u q => ?_⟩
  by_cases hi : i < us.length
  · rw [List.getElem?_append_left (by simpa using hi), List.getElem?_map] at q
    cases q2 : us[i]? with
    | none => rw [q2] at q; cases q
    | some x =>
      rw [q2] at q
      cases q
      obtain ⟨v, hv, r⟩ := l.get q2
      exact ⟨v, by rw [List.getElem?_append_left (by rw [List.length_map, ← l.length]; exact hi), List.getElem?_map, hv]; rfl, r⟩
  · rw [List.getElem?_append_right (by simpa using hi)] at q
    have := List.mem_of_getElem? q
    cases (List.mem_replicate.mp this).2
/-- the own heap is forgotten -/
theorem forget {w w' : Wd} (hr : w.r = []) (m : Sm G w) (e : Ext w w') (m' : Sm G w') :
    let w2 : Wd := ⟨w.Z, [], [], w'.H⟩
    Ext w w2 ∧ Sm G w2 ∧ (∀ a, w2.Z a → w'.Z a) ∧ ∀ a ∈ w'.r, ¬ w2.Z a := by
  refine ⟨⟨⟨[], by simp [hr], by simp⟩, fun a h => .inl h, fun a h => h, fun a o h _ => e.keep a o h (.inl (by rw [hr]; simp)), e.dom⟩, ⟨rfl, .nil, (fun a h => nomatch h), (fun a h q => m.dom a h (e.dom a q)), (fun i a o h _ => by simp at h)⟩, fun a h => e.zs a h, fun a h z => ?_⟩
  obtain ⟨nw, q1, q2⟩ := e.nw
  rw [q1, hr, List.nil_append] at h
  exact m.dom a z (q2 a h)
theorem fin_of {W : WX} {w : Wd} {r : Rt} {Q : VK} {E : XK} (hr : w.r = []) (m : Sm G w) (hW : ∀ cls d σ H, E cls d H → W cls d σ H) (h : PtG G w (fin r) Q E) : PtS G W w r { nx := fun _ H' => Q .non H', rt := Q } := by
  cases r with
  | rt u hh =>
    unfold fin at h
    intro w' v a e m' rv
    subst a
    obtain ⟨f1, f2, f3, f4⟩ := forget hr m e m'
    dsimp only at h
    split at h
    · rename_i u' q
      exact h ⟨w.Z, [], [], w'.H⟩ v rfl rfl rfl f1 f2 (frz_of (w := w') (w' := ⟨w.Z, [], [], w'.H⟩) rfl m' f3 f4 8 u u' v rv q)
    · exact h.elim
  | nx us hh =>
    intro w' σ' a e m' sl
    obtain ⟨f1, f2, f3, f4⟩ := forget hr m e m'
    exact h ⟨w.Z, [], [], w'.H⟩ .non rfl rfl rfl f1 f2 .non
  | ex x us hh =>
    intro w' σ' cls d a e m' sl rx
    subst a
    obtain ⟨f1, f2, f3, f4⟩ := forget hr m e m'
    obtain ⟨c, fs⟩ := x
    unfold fin at h
    cases fs with
    | nil =>
      refine hW _ _ _ _ (h ⟨w.Z, [], [], w'.H⟩ cls d rfl rfl rfl f1 f2 rx)
    | cons f r =>
      dsimp only at h
      split at h
      · rename_i f' r' q
        obtain ⟨hc, dd, vs, ed, hd, nz, l⟩ := rx
        refine hW _ _ _ _ (h ⟨w.Z, [], [], w'.H⟩ cls d rfl rfl rfl f1 f2 ⟨hc, dd, vs, ed, hd, fun z => nz (f3 _ z), frz_all (w' := ⟨w.Z, [], [], w'.H⟩) (fun u u' v r q => frz_of (w := w') (w' := ⟨w.Z, [], [], w'.H⟩) rfl m' f3 f4 8 u u' v r q) l q⟩)
      · exact h.elim
  | bk us hh => exact False.elim h
  | ct us hh => exact False.elim h
  | no => exact False.elim h
theorem finH_of {W : WX} {w : Wd} {r : Rt} {Q : VK} {E : XK} (hW : ∀ cls d σ H, E cls d H → W cls d σ H) (h : Pt G (R G) (fun cls d _ H => E cls d H) [] w (finH r) Q) : PtS G W w r { nx := fun _ H' => Q .non H', rt := Q } := by
  cases r with
  | rt u hh => exact h
  | nx us hh => exact fun w' σ' a e m' sl => h w' .non a e m' .non
  | ex x us hh => exact fun w' σ' cls d a e m' sl rx => hW _ _ _ _ (h w' cls d a e m' rx)
  | bk us hh => exact False.elim h
  | ct us hh => exact False.elim h
  | no => exact False.elim h
variable {P : Program} {w : World} {K : PySem.W.Frag} {mg : Str → Option Value} {base : Heap}
/-- a def's promise, by its body's evaluator -/
theorem okG {x qual : Str} {st : Stmt} {f : Addr} {fd : FuncData} {N ps : List Str} {k : Nat} {body : Sv} (F : Fun K x qual st f fd) (S : FnScope N ps (defScope st))
    (hbody : ∀ (cdv : Value) (A : Around) (outer : List Env) (s : Shared) (H : Hp) (E : XK), Room k (A.deeper (envOfC qual (defScope st) s.heap.objs.size f cdv)) → ∀ W : WX, Takes (cxOf (L2.CX P w) P w K mg base N qual (defScope st) f cdv A outer s H E) W →
      PSs (cxOf (L2.CX P w) P w K mg base N qual (defScope st) f cdv A outer s H E) (defBody st) (tS G body W)) : FnOk P w K mg base (L2.CX P w) (k + 1) f fd ps (fnG G ps.length (runG N.length body)) :=
  F.okX S (fun _ _ _ _ h => h.1) fun cdv A outer s H vs Q E hr h => by
    have tk : Takes (cxOf (L2.CX P w) P w K mg base N qual (defScope st) f cdv A outer s H E) (fun cls d _ H => E cls d H) := takes_of rfl rfl rfl rfl
    refine ⟨_, hbody cdv A outer s H E hr _ tk, ?_⟩
    obtain ⟨hl, us, w, rfl, h1, h2, m, l, h⟩ := h
    refine ⟨startU N.length us, w, rfl, m, start_sl l, ?_⟩
    rw [h2]
    exact fin_of h1 m (fun _ _ _ _ h => h) h
theorem okH {x qual : Str} {st : Stmt} {f : Addr} {fd : FuncData} {N ps : List Str} {k : Nat} {body : Sv} (F : Fun K x qual st f fd) (S : FnScope N ps (defScope st))
    (hbody : ∀ (cdv : Value) (A : Around) (outer : List Env) (s : Shared) (H : Hp) (E : XK), Room k (A.deeper (envOfC qual (defScope st) s.heap.objs.size f cdv)) → ∀ W : WX, Takes (cxOf (L2.CX P w) P w K mg base N qual (defScope st) f cdv A outer s H E) W →
      PSs (cxOf (L2.CX P w) P w K mg base N qual (defScope st) f cdv A outer s H E) (defBody st) (tS G body W)) : FnOk P w K mg base (L2.CX P w) (k + 1) f fd ps (fnH G ps.length (runH N.length body)) :=
  F.okX S (fun _ _ _ _ h => h.1) fun cdv A outer s H vs Q E hr h => by
    have tk : Takes (cxOf (L2.CX P w) P w K mg base N qual (defScope st) f cdv A outer s H E) (fun cls d _ H => E cls d H) := takes_of rfl rfl rfl rfl
    refine ⟨_, hbody cdv A outer s H E hr _ tk, ?_⟩
    obtain ⟨hl, us, w, rfl, m, l, h⟩ := h
    exact ⟨startU N.length us, w, rfl, m, start_sl l, finH_of (fun _ _ _ _ h => h) h⟩
end
/-! ### calls -/
/-- nothing of the own heap within -/
def pureU : Nat → U → Bool
  | 0, _ => false
  | n + 1, u => match u with
    | .ref _ => false
    | .tup xs => xs.all (pureU n)
    | .fl xs => xs.all (pureU n)
    | .ob _ xs => xs.all (pureU n)
    | .tx xs => xs.all (pureU n)
    | _ => true
/-- no list within: numbers, texts, tuples of them -/
def plainU : Nat → U → Bool
  | 0, _ => false
  | n + 1, u => match u with
    | .ref _ => false
    | .fl _ => false
    | .ob _ _ => false
    | .tx _ => false
    | .tup xs => xs.all (plainU n)
    | _ => true
section
variable {G : Cfg} {w w' : Wd}
theorem pure_all {n : Nat} (ih : ∀ (u : U) (v : V), R G w u v → pureU n u = true → R G w' u v) : ∀ {us : List U} {vs : List V}, RL G w us vs → us.all (pureU n) = true → RL G w' us vs
  | _, _, .nil, _ => .nil
  | _, _, .cons r t, e => by
    rw [List.all_cons, Bool.and_eq_true] at e
    exact .cons (ih _ _ r e.1) (pure_all ih t e.2)
theorem pure_of (hH : w'.H = w.H) (hz : ∀ a, w'.Z a → w.Z a) : ∀ (n : Nat) (u : U) (v : V), R G w u v → pureU n u = true → R G w' u v
  | 0, _, _, _, e => by cases e
  | n + 1, u, v, r, e => by
    have ih := pure_of hH hz n
    unfold pureU at e
    cases r with
    | non => exact .non
    | bl b => exact .bl b
    | int b => exact .int b
    | str b => exact .str b
    | ty b => exact .ty b
    | scr h => exact .scr (hH ▸ h)
    | tup h l => exact .tup (hH ▸ h) (pure_all ih l e)
    | tx h d l => exact .tx (hH ▸ h) d (pure_all ih l e)
    | fl h nz l => exact .fl (hH ▸ h) (fun z => nz (hz _ z)) (pure_all ih l e)
    | ob h nz hl l => exact .ob (hH ▸ h) (fun z => nz (hz _ z)) hl (pure_all ih l e)
    | ref h => cases e
theorem plain_all {n : Nat} (ih : ∀ (u : U) (v : V), R G w u v → plainU n u = true → R G w' u v) : ∀ {us : List U} {vs : List V}, RL G w us vs → us.all (plainU n) = true → RL G w' us vs
  | _, _, .nil, _ => .nil
  | _, _, .cons r t, e => by
    rw [List.all_cons, Bool.and_eq_true] at e
    exact .cons (ih _ _ r e.1) (plain_all ih t e.2)
theorem plain_of (hH : w'.H = w.H) : ∀ (n : Nat) (u : U) (v : V), R G w u v → plainU n u = true → R G w' u v
  | 0, _, _, _, e => by cases e
  | n + 1, u, v, r, e => by
    have ih := plain_of hH n
    unfold plainU at e
    cases r with
    | non => exact .non
    | bl b => exact .bl b
    | int b => exact .int b
    | str b => exact .str b
    | ty b => exact .ty b
    | scr h => exact .scr (hH ▸ h)
    | tup h l => exact .tup (hH ▸ h) (plain_all ih l e)
    | tx h d l => cases e
    | fl h nz l => cases e
    | ob h nz hl l => cases e
    | ref h => cases e
/-- R where no own object stands: by any world of the same Z and heap -/
theorem R.bare (hr : w.r = []) (hH : w'.H = w.H) (hz : ∀ a, w'.Z a → w.Z a) {u : U} {v : V} (h : R G w u v) : R G w' u v :=
  R.les ⟨hz, fun i a q => by rw [hr] at q; simp at q, hH⟩ h
theorem RL.bare (hr : w.r = []) (hH : w'.H = w.H) (hz : ∀ a, w'.Z a → w.Z a) {u : List U} {v : List V} (h : RL G w u v) : RL G w' u v :=
  RL.les ⟨hz, fun i a q => by rw [hr] at q; simp at q, hH⟩ h
end
/-- f(..), the arguments nobody's -/
def eCallG (n : Nat) (f : Fg) (fa : EvA) : Ev := fun us h => (fa us h).bind fun as h1 => match as.length == n && as.all (pureU 10) with
  | true => (match f as with | .ok u => .ok u h1 | .ex e => .ex e h1 | .no => .no)
  | false => .no
/-- f(..), lists of ours are handed to be read alone; what comes back bears no list -/
def eCallR (n : Nat) (f : Fg) (fa : EvA) : Ev := fun us h => (fa us h).bind fun as h1 => match mapO (frz 8 h1) as with
  | some bs => (match as.length == n with | true => (match f bs with | .ok u => (match plainU 10 u with | true => .ok u h1 | false => .no) | .ex ⟨c, []⟩ => .ex ⟨c, []⟩ h1 | _ => .no) | false => .no)
  | none => .no
/-- f(..), our objects may be changed -/
def eCallH (n : Nat) (f : Fh) (fa : EvA) : Ev := fun us h => (fa us h).bind fun as h1 => match as.length == n with | true => f as h1 | false => .no
section
variable {G : Cfg} {W : WX} {σ : L2.St} {w : Wd} {Q : VK} {n : Nat}
theorem callG_pt {f : Fg} {as : List U} {vs : List V} (m : Sm G w) (l : RL G w as vs)
    (h : Pt G (R G) W σ w (match as.length == n && as.all (pureU 10) with | true => (match f as with | .ok u => .ok u w.h | .ex e => .ex e w.h | .no => .no) | false => .no) Q) : fnG G n f vs w.H Q (WE W σ) := by
  split at h
  · rename_i hp0
    rw [Bool.and_eq_true] at hp0
    have hn : vs.length = n := by rw [← l.length]; exact beq_iff_eq.mp hp0.1
    have hp := hp0.2
    have m0 : Sm G ⟨w.Z, [], [], w.H⟩ := ⟨rfl, .nil, (fun a h => nomatch h), m.dom, (fun i a o h _ => by simp at h)⟩
    refine ⟨hn, as, ⟨w.Z, [], [], w.H⟩, rfl, rfl, rfl, m0, pure_all (w := w) (w' := ⟨w.Z, [], [], w.H⟩) (fun u v r e => pure_of (w := w) (w' := ⟨w.Z, [], [], w.H⟩) rfl (fun a z => z) 10 u v r e) l hp, ?_⟩
    have back : ∀ w' : Wd, w'.r = [] → w'.Z = w.Z → w'.h = [] → Ext ⟨w.Z, [], [], w.H⟩ w' → Ext w ⟨w.Z, w.r, w.h, w'.H⟩ ∧ Sm G ⟨w.Z, w.r, w.h, w'.H⟩ := fun w' _ hZ _ e => by
      have ex : Ext w ⟨w.Z, w.r, w.h, w'.H⟩ := ⟨⟨[], by simp, by simp⟩, fun a h => .inl h, fun a h => h, fun a o h _ => e.keep a o h (.inl (by simp)), e.dom⟩
      refine ⟨ex, ⟨m.len, m.nd, m.z, fun a h q => m.dom a h (e.dom a q), fun i a o h1 h2 => (m.obj i a o h1 h2).up m ex fun b q => e.keep a b q (.inl (by simp))⟩⟩
    cases hf : f as with
    | ok u =>
      rw [hf] at h
      intro w' v a b c e m' r
      obtain ⟨x1, x2⟩ := back w' a b c e
      exact h ⟨w.Z, w.r, w.h, w'.H⟩ v rfl x1 x2 (R.bare (w := w') (w' := ⟨w.Z, w.r, w.h, w'.H⟩) a rfl (fun z q => by rw [b]; exact q) r)
    | ex x =>
      rw [hf] at h
      intro w' cls d a b c e m' r
      obtain ⟨x1, x2⟩ := back w' a b c e
      refine h ⟨w.Z, w.r, w.h, w'.H⟩ cls d rfl x1 x2 ?_
      obtain ⟨xc, fs⟩ := x
      obtain ⟨r1, r2⟩ := r
      refine ⟨r1, ?_⟩
      cases fs with
      | nil => exact r2
      | cons f r =>
        obtain ⟨dd, vs, e1, e2, e3, l⟩ := r2
        exact ⟨dd, vs, e1, e2, by rw [b] at e3; exact e3, RL.bare (w := w') (w' := ⟨w.Z, w.r, w.h, w'.H⟩) a rfl (fun z q => by rw [b]; exact q) l⟩
    | no => rw [hf] at h; exact h.elim
  · exact h.elim
theorem callR_pt {f : Fg} {as : List U} {vs : List V} (m : Sm G w) (l : RL G w as vs)
    (h : Pt G (R G) W σ w (match mapO (frz 8 w.h) as with | some bs => (match as.length == n with | true => (match f bs with | .ok u => (match plainU 10 u with | true => .ok u w.h | false => .no) | .ex ⟨c, []⟩ => .ex ⟨c, []⟩ w.h | _ => .no) | false => .no) | none => .no) Q) : fnG G n f vs w.H Q (WE W σ) := by
  split at h
  · rename_i bs hb
    split at h
    case h_2 => exact h.elim
    rename_i hp0
    have hn : vs.length = n := by rw [← l.length]; exact beq_iff_eq.mp hp0
    have m0 : Sm G ⟨fun _ => False, [], [], w.H⟩ := ⟨rfl, .nil, (fun a h => nomatch h), (fun a h => h.elim), (fun i a o h _ => by simp at h)⟩
    refine ⟨hn, bs, ⟨fun _ => False, [], [], w.H⟩, rfl, rfl, rfl, m0, frz_all (w := w) (w' := ⟨fun _ => False, [], [], w.H⟩) (fun u u' v r q => frz_of (w := w) (w' := ⟨fun _ => False, [], [], w.H⟩) rfl m (fun a z => False.elim z) (fun a _ z => z) 8 u u' v r q) l hb, ?_⟩
    have back : ∀ w' : Wd, Ext ⟨fun _ => False, [], [], w.H⟩ w' → Ext w ⟨w.Z, w.r, w.h, w'.H⟩ ∧ Sm G ⟨w.Z, w.r, w.h, w'.H⟩ := fun w' e => by
      have ex : Ext w ⟨w.Z, w.r, w.h, w'.H⟩ := ⟨⟨[], by simp, by simp⟩, fun a h => .inl h, fun a h => h, fun a o h _ => e.keep a o h (.inl (by simp)), e.dom⟩
      refine ⟨ex, ⟨m.len, m.nd, m.z, fun a h q => m.dom a h (e.dom a q), fun i a o h1 h2 => (m.obj i a o h1 h2).up m ex fun b q => e.keep a b q (.inl (by simp))⟩⟩
    split at h
    · rename_i u hf
      rw [hf]
      split at h
      · rename_i hp
        intro w' v a b c e m' r
        obtain ⟨x1, x2⟩ := back w' e
        exact h ⟨w.Z, w.r, w.h, w'.H⟩ v rfl x1 x2 (plain_of (w := w') (w' := ⟨w.Z, w.r, w.h, w'.H⟩) rfl 10 u v r hp)
      · exact h.elim
    · rename_i c hf
      rw [hf]
      intro w' cls d a b c e m' r
      obtain ⟨x1, x2⟩ := back w' e
      exact h ⟨w.Z, w.r, w.h, w'.H⟩ cls d rfl x1 x2 r
    · exact h.elim
  · exact h.elim
end
section
variable {X : Cx} {G : Cfg} {W : WX} {k n : Nat} {f : Addr} {fd : FuncData} {ps : List Str} {x : Str} {p pos : Pos} {e : Expr} {es : List Expr} {fa : EvA}
theorem f_callG {ff : Fg} (F : FnOk X.prog X.w X.K X.mg X.base (L2.CX X.prog X.w) k f fd ps (fnG G n ff)) (hr : Room k X.A) (hg : Gl X x) (hm : X.mg x = some (.ref f)) (hk : PySem.W.keepIn X.K (.ref f) = true) (hb : Binds X.K fd ps []) (tk : Takes X W)
    (ha : PA X (e :: es) (tA G fa W)) (hdb : (x == ("__debug__" : Str)) = false := by decide) (he : starEach (e :: es) X.env = (false, eval e X.env) :: starEach es X.env := by rfl) (hpl : (backTo pos (starEach es X.env)).any (·.1) = false := by rfl) :
    PE X (.Call (.Name x p) (e :: es) [] pos) (tE G (eCallG n ff fa) W) :=
  PE.imp (pe_callS (E := WE W) F hr hg hm hk hb (fun σ => passAt tk σ) ha hdb he hpl) fun σ _ Q ⟨us, w, e, m, sl, h⟩ => by
    subst e
    refine ⟨us, w, rfl, m, sl, (Pt.bind (Rel := RL G) h).imp ?_⟩
    rintro vs H1 ⟨w1, as, rfl, e1, m1, r1, h1⟩
    exact callG_pt m1 r1 h1
theorem f_callR {ff : Fg} (F : FnOk X.prog X.w X.K X.mg X.base (L2.CX X.prog X.w) k f fd ps (fnG G n ff)) (hr : Room k X.A) (hg : Gl X x) (hm : X.mg x = some (.ref f)) (hk : PySem.W.keepIn X.K (.ref f) = true) (hb : Binds X.K fd ps []) (tk : Takes X W)
    (ha : PA X (e :: es) (tA G fa W)) (hdb : (x == ("__debug__" : Str)) = false := by decide) (he : starEach (e :: es) X.env = (false, eval e X.env) :: starEach es X.env := by rfl) (hpl : (backTo pos (starEach es X.env)).any (·.1) = false := by rfl) :
    PE X (.Call (.Name x p) (e :: es) [] pos) (tE G (eCallR n ff fa) W) :=
  PE.imp (pe_callS (E := WE W) F hr hg hm hk hb (fun σ => passAt tk σ) ha hdb he hpl) fun σ _ Q ⟨us, w, e, m, sl, h⟩ => by
    subst e
    refine ⟨us, w, rfl, m, sl, (Pt.bind (Rel := RL G) h).imp ?_⟩
    rintro vs H1 ⟨w1, as, rfl, e1, m1, r1, h1⟩
    exact callR_pt m1 r1 h1
theorem f_callH {ff : Fh} (F : FnOk X.prog X.w X.K X.mg X.base (L2.CX X.prog X.w) k f fd ps (fnH G n ff)) (hr : Room k X.A) (hg : Gl X x) (hm : X.mg x = some (.ref f)) (hk : PySem.W.keepIn X.K (.ref f) = true) (hb : Binds X.K fd ps []) (tk : Takes X W)
    (ha : PA X (e :: es) (tA G fa W)) (hdb : (x == ("__debug__" : Str)) = false := by decide) (he : starEach (e :: es) X.env = (false, eval e X.env) :: starEach es X.env := by rfl) (hpl : (backTo pos (starEach es X.env)).any (·.1) = false := by rfl) :
    PE X (.Call (.Name x p) (e :: es) [] pos) (tE G (eCallH n ff fa) W) :=
  PE.imp (pe_callS (E := WE W) F hr hg hm hk hb (fun σ => passAt tk σ) ha hdb he hpl) fun σ _ Q ⟨us, w, e, m, sl, h⟩ => by
    subst e
    refine ⟨us, w, rfl, m, sl, (Pt.bind (Rel := RL G) h).imp ?_⟩
    rintro vs H1 ⟨w1, as, rfl, e1, m1, r1, h1⟩
    split at h1
    · rename_i hp
      refine ⟨by rw [← r1.length]; exact beq_iff_eq.mp hp, as, w1, rfl, m1, r1, ?_⟩
      cases hq : ff as w1.h with
      | ok u hh => rw [hq] at h1; exact h1
      | ex x hh => rw [hq] at h1; exact h1
      | no => rw [hq] at h1; exact h1
    · exact h1.elim
end
end Fn
/-! methods of lists; constants of the module -/
namespace Fn
open PySem L2 PySem.Spec PyProof.Rows
def OpM (G : Cfg) (r : V → List V → Hp → VK → Prop) (k : U → List U → List UO → Rs U) : Prop :=
  ∀ (w : Wd) (σ : L2.St) (W : WX) (x : U) (a : V) (xs : List U) (vs : List V) (Q : VK), Sm G w → R G w x a → RL G w xs vs → Pt G (R G) W σ w (k x xs w.h) Q → r a vs w.H Q
/-- the list's own method -/
def eMt0 (k : U → List U → List UO → Rs U) (fo : Ev) : Ev := fun us h => (fo us h).bind fun u h1 => match lstU h1 u with | some _ => k u [] h1 | none => .no
def eMt (k : U → List U → List UO → Rs U) (fo : Ev) (fa : EvA) : Ev := fun us h => (fo us h).bind fun u h1 => match lstU h1 u with | some _ => ((fa us h1).bind fun as h2 => k u as h2) | none => .no
def kAppend (u : U) (as : List U) (h : List UO) : Rs U := match u, as with
  | .ref i, [y] => (match h[i]? with | some (.lst xs) => (match szOk (xs.length + 1) with | true => .ok .non (h.set i (.lst (xs ++ [y]))) | false => .no) | _ => .no)
  | _, _ => .no
def kPop (u : U) (as : List U) (h : List UO) : Rs U := match u, as with
  | .ref i, [] => (match h[i]? with | some (.lst xs) => (match xs[xs.length - 1]? with | some y => .ok y (h.set i (.lst xs.dropLast)) | none => .no) | _ => .no)
  | _, _ => .no
def kPopAt (u : U) (as : List U) (h : List UO) : Rs U := match u, as with
  | .ref i, [.int n] => (match h[i]? with | some (.lst xs) => (match ixN xs.length n with | some j => (match xs[j]?, szOk xs.length with | some y, true => .ok y (h.set i (.lst (xs.eraseIdx j))) | _, _ => .no) | none => .no) | _ => .no)
  | _, _ => .no
def kReverse (u : U) (as : List U) (h : List UO) : Rs U := match u, as with
  | .ref i, [] => (match h[i]? with | some (.lst xs) => .ok .non (h.set i (.lst xs.reverse)) | _ => .no)
  | _, _ => .no
def kClear (u : U) (as : List U) (h : List UO) : Rs U := match u, as with
  | .ref i, [] => (match h[i]? with | some (.lst xs) => .ok .non (h.set i (.lst [])) | _ => .no)
  | _, _ => .no
def idxI (n : Int) : List Int → Nat → Option Nat
  | [], _ => none
  | x :: r, i => match x == n with | true => some i | false => idxI n r (i + 1)
/-- ints alone -/
def kIndex (u : U) (as : List U) (h : List UO) : Rs U := match as with
  | [.int n] => (match lstU h u with | some xs => (match toInts xs with | some ns => (match idxI n ns 0 with | some j => .ok (.int (j : Nat)) h | none => .no) | none => .no) | none => .no)
  | _ => .no
theorem idxI_spec {n : Int} : ∀ {l : List Int} {i j : Nat}, idxI n l i = some j → ∃ k, j = i + k ∧ l[k]? = some n ∧ ∀ m y, m < k → l[m]? = some y → y ≠ n
  | [], _, _, h => by cases h
  | x :: r, i, j, h => by
    unfold idxI at h
    split at h
    · rename_i q
      cases h
      exact ⟨0, rfl, by simp [beq_iff_eq.mp q], fun m y hm => absurd hm (Nat.not_lt_zero _)⟩
    · rename_i q
      obtain ⟨k, h1, h2, h3⟩ := idxI_spec h
      refine ⟨k + 1, by omega, by simpa using h2, fun m y hm hy => ?_⟩
      cases m with
      | zero =>
        simp at hy
        subst hy
        exact ne_of_beq_false q
      | succ m => exact h3 m y (by omega) (by simpa using hy)
theorem PtN.weak {G : Cfg} {W : WX} {σ : L2.St} {w w1 : Wd} {r : Rs (List U)} {Q : VK} (e : Ext w w1) (h : PtN G W σ w r Q) : PtN G W σ w1 r Q := by
  cases r with
  | ok xs hh => exact fun w' p vs a b c l d f => h w' p vs a (e.trans b) c l d (e.dom _ f)
  | ex x hh => exact fun w' c d a b => h w' c d a (e.trans b)
  | no => exact h
section
variable {G : Cfg}
theorem ok_append : OpM G rAppend kAppend := by
  intro w σ W x a xs vs Q m r l h
  unfold kAppend at h
  split at h
  · rename_i i y
    cases r with
    | @ref _ p hr =>
      cases l with
      | cons ry t =>
        cases t
        split at h
        · rename_i xs q
          split at h
          · rename_i hz
            cases m.obj _ _ _ hr q with
            | @lst _ ws hv l =>
              obtain ⟨ex, sm⟩ := putL (vs := ws) m hr q (l.append (.one ry))
              refine ⟨p, ws, _, rfl, rfl, hv, ?_, h _ .non rfl ex sm .non⟩
              have := szOk_le hz
              rw [← l.length]; omega
          · exact h.elim
        · exact h.elim
  · exact h.elim
theorem ok_pop : OpM G rPop kPop := by
  intro w σ W x a xs vs Q m r l h
  unfold kPop at h
  split at h
  · rename_i i
    cases r with
    | @ref _ p hr =>
      cases l
      split at h
      · rename_i xs q
        split at h
        · rename_i y hy
          cases m.obj _ _ _ hr q with
          | @lst _ ws hv l =>
            obtain ⟨ex, sm⟩ := putL (vs := ws) m hr q l.dropLast
            obtain ⟨v, hv2, rv⟩ := l.get hy
            rw [l.length] at hv2
            exact ⟨p, ws, v, rfl, rfl, hv, hv2, h _ v rfl ex sm (rv.up m ex)⟩
        · exact h.elim
      · exact h.elim
  · exact h.elim
theorem ok_popAt : OpM G rPopAt kPopAt := by
  intro w σ W x a xs vs Q m r l h
  unfold kPopAt at h
  split at h
  · rename_i i n
    cases r with
    | @ref _ p hr =>
      cases l with
      | cons ry t =>
        cases t
        cases ry
        split at h
        · rename_i xs q
          split at h
          · rename_i j hj
            split at h
            · rename_i y hy hz
              cases m.obj _ _ _ hr q with
              | @lst _ ws hv l =>
                obtain ⟨ex, sm⟩ := putL (vs := ws) m hr q (l.eraseIdx j)
                obtain ⟨v, hv2, rv⟩ := l.get hy
                rw [l.length] at hj hz
                obtain ⟨h1, h2, h3, h4⟩ := ixN_seq hj
                have hz := szOk_le hz
                rw [sizeLine_eq] at hz
                exact ⟨p, ws, n, j, v, rfl, rfl, hv, by omega, by omega, h1, hv2, h _ v rfl ex sm (rv.up m ex)⟩
            · exact h.elim
          · exact h.elim
        · exact h.elim
  · exact h.elim
theorem ok_reverse : OpM G rReverse kReverse := by
  intro w σ W x a xs vs Q m r l h
  unfold kReverse at h
  split at h
  · rename_i i
    cases r with
    | @ref _ p hr =>
      cases l
      split at h
      · rename_i xs q
        cases m.obj _ _ _ hr q with
        | @lst _ ws hv l =>
          obtain ⟨ex, sm⟩ := putL (vs := ws) m hr q l.reverse
          exact ⟨p, ws, rfl, rfl, hv, h _ .non rfl ex sm .non⟩
      · exact h.elim
  · exact h.elim
theorem ok_clear : OpM G rClear kClear := by
  intro w σ W x a xs vs Q m r l h
  unfold kClear at h
  split at h
  · rename_i i
    cases r with
    | @ref _ p hr =>
      cases l
      split at h
      · rename_i xs q
        cases m.obj _ _ _ hr q with
        | @lst _ ws hv l =>
          obtain ⟨ex, sm⟩ := putL (vs := ws) m hr q .nil
          exact ⟨p, ws, rfl, rfl, hv, h _ .non rfl ex sm .non⟩
      · exact h.elim
  · exact h.elim
theorem flat_ints (ns : List Int) : (ns.map V.int).all flatV = true := by
  rw [List.all_eq_true]
  intro x hx
  obtain ⟨n, _, rfl⟩ := List.mem_map.mp hx
  rfl
theorem ok_index : OpM G (rIndex G.K) kIndex := by
  intro w σ W x a xs vs Q m r l h
  unfold kIndex at h
  split at h
  · rename_i n
    cases l with
    | cons ry t =>
      cases t
      cases ry
      split at h
      · rename_i xs q
        split at h
        · rename_i ns q2
          split at h
          · rename_i j q3
            obtain ⟨p, ws, rfl, hs, l⟩ := lstU_of m r q
            obtain ⟨e1, e2⟩ := toInts_of l q2
            subst e1
            obtain ⟨k, hk, h1, h2⟩ := idxI_spec q3
            have hk : j = k := by omega
            subst hk
            refine ⟨p, ns.map V.int, .int n, j, .int n, rfl, rfl, hs, rfl, flat_ints ns, by rw [List.getElem?_map, h1]; rfl, by simp [eqV], fun i z hi hz => ?_, h.here m (.int _)⟩
            rw [List.getElem?_map] at hz
            cases hy : ns[i]? with
            | none => rw [hy] at hz; cases hz
            | some y =>
              rw [hy] at hz
              cases hz
              have := h2 i y hi hy
              simp [eqV, this]
          · exact h.elim
        · exact h.elim
      · exact h.elim
  · exact h.elim
end
section
variable {X : Cx} {G : Cfg} {W : WX} {o e : Expr} {es : List Expr} {fo : Ev} {fa : EvA} {name : Str} {apos cpos : Pos} {id : String} {r : V → List V → Hp → VK → Prop} {k : U → List U → List UO → Rs U}
theorem f_mt0 (hK : X.K = G.K) (slot : Slot "list" name id) (hty : typeOf (.builtin id) = pure (.type "method_descriptor")) (hm : MtR X id r) (hk : OpM G r k) (ho : PE X o (tE G fo W))
    (hbase : attributeBase o name X.env (eval o X.env) = eval o X.env := by rfl) (hline : (apos.endLine == cpos.line) = true := by rfl) : PE X (.Call (.Attribute o name apos) [] [] cpos) (tE G (eMt0 k fo) W) :=
  PE.imp (pe_bm0 PySem.F.plainAttrs_list slot hty hm ho hbase hline) fun σ _ Q ⟨us, w, e, m, sl, h⟩ => by
    subst e
    refine ⟨us, w, rfl, m, sl, (Pt.bind (Rel := R G) h).imp ?_⟩
    rintro v H1 ⟨w1, u, rfl, e1, m1, r1, h1⟩
    split at h1
    · rename_i xs q
      obtain ⟨p, vs, rfl, hs, l⟩ := lstU_of m1 r1 q
      exact ⟨.inl ⟨rfl, _, hK ▸ hs⟩, hk w1 σ W u _ [] [] Q m1 r1 .nil h1⟩
    · exact h1.elim
theorem f_mt (hK : X.K = G.K) (slot : Slot "list" name id) (hty : typeOf (.builtin id) = pure (.type "method_descriptor")) (hm : MtR X id r) (hk : OpM G r k) (ho : PE X o (tE G fo W)) (ha : PA X (e :: es) (tA G fa W))
    (hbase : attributeBase o name X.env (eval o X.env) = eval o X.env := by rfl)
    (hfew : ((backTo cpos (starEach (e :: es) X.env)).all (fun x => !x.1) && (backToKw cpos (keywordEach [] X.env)).all (fun x => x.1.isSome)
      && decide ((e :: es).length + ([] : List Keyword).length + (if ([] : List Keyword).isEmpty then 0 else 1) < 30)) = true := by rfl)
    (hline : (apos.endLine == cpos.line) = true := by rfl) (hs : starEach (e :: es) X.env = (false, eval e X.env) :: starEach es X.env := by rfl) (hplain : (backTo cpos (starEach es X.env)).any (·.1) = false := by rfl) :
    PE X (.Call (.Attribute o name apos) (e :: es) [] cpos) (tE G (eMt k fo fa) W) :=
  PE.imp (pe_bm PySem.F.plainAttrs_list slot hty hm ho ha hbase hfew hline hs hplain) fun σ _ Q ⟨us, w, e, m, sl, h⟩ => by
    subst e
    refine ⟨us, w, rfl, m, sl, (Pt.bind (Rel := R G) h).imp ?_⟩
    rintro v H1 ⟨w1, u, rfl, e1, m1, r1, h1⟩
    split at h1
    · rename_i xs q
      obtain ⟨p, vs, rfl, hs, l⟩ := lstU_of m1 r1 q
      refine ⟨.inl ⟨rfl, _, hK ▸ hs⟩, us, w1, rfl, m1, sl.up m e1, (Pt.bind (Rel := RL G) h1).imp ?_⟩
      rintro vs H2 ⟨w2, as, rfl, e2, m2, r2, h2⟩
      exact hk w2 σ W u _ as vs Q m2 (r1.up m1 e2) r2 h2
    · exact h1.elim
theorem f_append (hK : X.K = G.K) (ho : PE X o (tE G fo W)) (ha : PA X [e] (tA G fa W)) (hbase : attributeBase o "append" X.env (eval o X.env) = eval o X.env := by rfl)
    (hline : (apos.endLine == cpos.line) = true := by rfl) (hs : starEach [e] X.env = (false, eval e X.env) :: starEach [] X.env := by rfl)
    (hfew : ((backTo cpos (starEach [e] X.env)).all (fun x => !x.1) && (backToKw cpos (keywordEach [] X.env)).all (fun x => x.1.isSome)
      && decide ([e].length + ([] : List Keyword).length + (if ([] : List Keyword).isEmpty then 0 else 1) < 30)) = true := by rfl) :
    PE X (.Call (.Attribute o "append" apos) [e] [] cpos) (tE G (eMt kAppend fo fa) W) := f_mt hK PySem.F.slot_list_append PySem.F.type_list_append mt_append ok_append ho ha hbase hfew hline hs rfl
theorem f_popAt (hK : X.K = G.K) (ho : PE X o (tE G fo W)) (ha : PA X [e] (tA G fa W)) (hbase : attributeBase o "pop" X.env (eval o X.env) = eval o X.env := by rfl)
    (hline : (apos.endLine == cpos.line) = true := by rfl) (hs : starEach [e] X.env = (false, eval e X.env) :: starEach [] X.env := by rfl)
    (hfew : ((backTo cpos (starEach [e] X.env)).all (fun x => !x.1) && (backToKw cpos (keywordEach [] X.env)).all (fun x => x.1.isSome)
      && decide ([e].length + ([] : List Keyword).length + (if ([] : List Keyword).isEmpty then 0 else 1) < 30)) = true := by rfl) :
    PE X (.Call (.Attribute o "pop" apos) [e] [] cpos) (tE G (eMt kPopAt fo fa) W) := f_mt hK PySem.F.slot_list_pop PySem.F.type_list_pop mt_popAt ok_popAt ho ha hbase hfew hline hs rfl
theorem f_index (hK : X.K = G.K) (ho : PE X o (tE G fo W)) (ha : PA X [e] (tA G fa W)) (hbase : attributeBase o "index" X.env (eval o X.env) = eval o X.env := by rfl)
    (hline : (apos.endLine == cpos.line) = true := by rfl) (hs : starEach [e] X.env = (false, eval e X.env) :: starEach [] X.env := by rfl)
    (hfew : ((backTo cpos (starEach [e] X.env)).all (fun x => !x.1) && (backToKw cpos (keywordEach [] X.env)).all (fun x => x.1.isSome)
      && decide ([e].length + ([] : List Keyword).length + (if ([] : List Keyword).isEmpty then 0 else 1) < 30)) = true := by rfl) :
    PE X (.Call (.Attribute o "index" apos) [e] [] cpos) (tE G (eMt kIndex fo fa) W) := f_mt hK PySem.F.slot_list_index PySem.F.type_list_index (hK ▸ mt_index) ok_index ho ha hbase hfew hline hs rfl
theorem f_pop (hK : X.K = G.K) (ho : PE X o (tE G fo W)) (hbase : attributeBase o "pop" X.env (eval o X.env) = eval o X.env := by rfl)
    (hline : (apos.endLine == cpos.line) = true := by rfl) : PE X (.Call (.Attribute o "pop" apos) [] [] cpos) (tE G (eMt0 kPop fo) W) := f_mt0 hK PySem.F.slot_list_pop PySem.F.type_list_pop mt_pop ok_pop ho hbase hline
theorem f_reverse (hK : X.K = G.K) (ho : PE X o (tE G fo W)) (hbase : attributeBase o "reverse" X.env (eval o X.env) = eval o X.env := by rfl)
    (hline : (apos.endLine == cpos.line) = true := by rfl) : PE X (.Call (.Attribute o "reverse" apos) [] [] cpos) (tE G (eMt0 kReverse fo) W) := f_mt0 hK PySem.F.slot_list_reverse PySem.F.type_list_reverse mt_reverse ok_reverse ho hbase hline
theorem f_clear (hK : X.K = G.K) (ho : PE X o (tE G fo W)) (hbase : attributeBase o "clear" X.env (eval o X.env) = eval o X.env := by rfl)
    (hline : (apos.endLine == cpos.line) = true := by rfl) : PE X (.Call (.Attribute o "clear" apos) [] [] cpos) (tE G (eMt0 kClear fo) W) := f_mt0 hK PySem.F.slot_list_clear PySem.F.type_list_clear mt_clear ok_clear ho hbase hline
/-- a written constant of the module: a tuple of whole numbers -/
theorem f_globT {x : Str} {a : Addr} {us : List U} {pos : Pos} (hg : Gl X x) (hm : X.mg x = some (.ref a)) (h : ∀ w : Wd, R G w (.tup us) (.ref a)) (hd : (x == ("__debug__" : Str)) = false := by decide) : PE X (.Name x pos) (tE G (eC (.tup us)) W) :=
  PE.imp (pe_glob hg hm (v := .ref a) rfl hd) fun _ _ _ q => c_of h q
theorem f_globI {x : Str} {n : Int} {t : Tok} {pos : Pos} (hg : Gl X x) (hm : X.mg x = some (.int n t)) (hd : (x == ("__debug__" : Str)) = false := by decide) : PE X (.Name x pos) (tE G (eC (.int n)) W) :=
  PE.imp (pe_glob hg hm (v := .int n) ⟨_, rfl⟩ hd) fun _ _ _ q => c_of (fun _ => .int n) q
end
/-! ### new lists that will be changed: concatenated, repeated, cut -/
def eN2 (k : U → U → List UO → Rs (List U)) (fa fb : Ev) : EvL := fun us h => (fa us h).bind fun a h1 => (fb us h1).bind fun b h2 => k a b h2
def OpN2 (G : Cfg) (r : R2) (k : U → U → List UO → Rs (List U)) : Prop := ∀ (w0 w : Wd) (σ : L2.St) (W : WX) (x y : U) (a b : V) (Q : VK), Ext w0 w → Sm G w → R G w x a → R G w y b → PtN G W σ w0 (k x y w.h) Q → r a b w.H Q
theorem f_opN2 {X : Cx} {G : Cfg} {W : WX} {a b : Expr} {fa fb : Ev} {pos : Pos} {op : Operator} {r : R2} {k : U → U → List UO → Rs (List U)} (ho : OpR X (binaryOp op) r) (hk : OpN2 G r k) (ha : PE X a (tE G fa W)) (hb : PE X b (tE G fb W)) : PE X (.BinOp a op b pos) (tN G (eN2 k fa fb) W) :=
  PE.imp (pe_op ho ha hb) fun σ _ Q ⟨us, w, e, m, sl, h⟩ => by
    subst e
    refine ⟨us, w, rfl, m, sl, (PtN.bind (Rel := R G) h).imp ?_⟩
    rintro x H1 ⟨w1, u, rfl, e1, m1, r1, h1⟩
    refine ⟨us, w1, rfl, m1, sl.up m e1, (PtN.bind (Rel := R G) (PtN.weak e1 h1)).imp ?_⟩
    rintro y H2 ⟨w2, v, rfl, e2, m2, r2, h2⟩
    exact hk w1 w2 σ W u v x y Q e2 m2 (r1.up m1 e2) r2 h2
def nCat (x y : U) (h : List UO) : Rs (List U) := match lstH h x, lstH h y with
  | some xs, some ys => (match szOk (xs.length + ys.length) with | true => .ok (xs ++ ys) h | false => .no)
  | _, _ => .no
def nRep (x y : U) (h : List UO) : Rs (List U) := match lstH h x, y with
  | some xs, .int j => (match Nat.ble j.toNat 100000 && (Nat.blt j.natAbs 9223372036854775808) && szOk (xs.length * j.toNat) with | true => .ok (List.replicate j.toNat xs).flatten h | false => .no)
  | _, _ => .no
theorem ok_nCat {G : Cfg} : OpN2 G rCat nCat := by
  intro w0 w σ W x y a b Q e m rx ry h
  unfold nCat at h
  split at h
  · rename_i xs ys q1 q2
    split at h
    · rename_i hz
      obtain ⟨p1, vs, rfl, h1, l1⟩ := lstH_of m rx q1
      obtain ⟨p2, ws, rfl, h2, l2⟩ := lstH_of m ry q2
      exact ⟨p1, p2, vs, ws, rfl, rfl, h1, h2, by rw [← l1.length, ← l2.length]; exact szOk_le hz, fun p hp => newL e m (l1.append l2) rfl h hp⟩
    · exact h.elim
  · exact h.elim
theorem ok_nRep {G : Cfg} : OpN2 G rRep nRep := by
  intro w0 w σ W x y a b Q e m rx ry h
  unfold nRep at h
  split at h
  · rename_i xs j q
    cases ry
    split at h
    · rename_i hz
      rw [Bool.and_eq_true, Bool.and_eq_true] at hz
      have h1 : j.natAbs < 9223372036854775808 := Nat.le_of_ble_eq_true hz.1.2
      obtain ⟨p1, vs, rfl, h2, l1⟩ := lstH_of m rx q
      have e : (2 : Int) ^ 63 = 9223372036854775808 := by decide
      refine ⟨p1, j, vs, rfl, rfl, h2, by omega, by omega, by rw [← l1.length]; exact szOk_le hz.2, fun p hp => ?_⟩
      exact newL ‹Ext w0 w› m (l1.rep _) rfl h hp
    · exact h.elim
  · exact h.elim
def nSl (x : U) (lo hi : Option Int) (h : List UO) : Rs (List U) := match lstU h x with | some xs => .ok (cutU xs lo hi) h | none => .no
def eSlN (f : Ev) (lo hi : EvO) : EvL := fun us h => (f us h).bind fun x h1 => (lo us h1).bind fun a h2 => (hi us h2).bind fun b h3 => nSl x a b h3
section
variable {X : Cx} {G : Cfg} {W : WX} {a b : Expr} {fa fb : Ev} {pos : Pos}
theorem f_catN (ha : PE X a (tE G fa W)) (hb : PE X b (tE G fb W)) : PE X (.BinOp a .Add b pos) (tN G (eN2 nCat fa fb) W) := f_opN2 op_cat ok_nCat ha hb
theorem f_repN (ha : PE X a (tE G fa W)) (hb : PE X b (tE G fb W)) : PE X (.BinOp a .Mult b pos) (tN G (eN2 nRep fa fb) W) := f_opN2 op_rep ok_nRep ha hb
theorem f_slN {lo hi : Option Expr} {fl fh : EvO} {p2 : Pos} (hK : X.K = G.K) (ha : PE X a (tE G fa W)) (hl : PO X lo (tO G fl W)) (hh : PO X hi (tO G fh W)) : PE X (.Subscript a (.Slice lo hi none p2) pos) (tN G (eSlN fa fl fh) W) :=
  PE.imp (pe_slice (r := rSlL X.K) sl_list ha hl hh) fun σ _ Q ⟨us, w, e, m, sl, h⟩ => by
    subst e
    rw [hK]
    refine ⟨us, w, rfl, m, sl, (PtN.bind (Rel := R G) h).imp ?_⟩
    rintro x H1 ⟨w1, u, rfl, e1, m1, r1, h1⟩
    have h1 := PtN.weak e1 h1
    refine ⟨us, w1, rfl, m1, sl.up m e1, (PtN.bind (Rel := fun _ (a b : Option Int) => a = b) h1).imp ?_⟩
    rintro o1 H2 ⟨w2, lo', rfl, e2, m2, rfl, h2⟩
    have h2 := PtN.weak e2 h2
    refine ⟨us, w2, rfl, m2, (sl.up m e1).up m1 e2, (PtN.bind (Rel := fun _ (a b : Option Int) => a = b) h2).imp ?_⟩
    rintro o2 H3 ⟨w3, hi', rfl, e3, m3, rfl, h3⟩
    unfold nSl at h3
    have r3 := (r1.up m1 e2).up m2 e3
    split at h3
    · rename_i xs q
      obtain ⟨p, vs, rfl, hs, l⟩ := lstU_of m3 r3 q
      exact ⟨p, vs, rfl, hs, fun p hp => newL e3 m3 (l.cut _ _) rfl h3 hp⟩
    · exact h3.elim
end
end Fn
/-! the law's ends -/
namespace Fn
open PySem L2 PySem.Spec PyProof.Rows
/-- slots of no more use -/
def fgtU (us : Lo) : List Nat → Lo
  | [] => us
  | v :: vs => (fgtU us vs).set v none
theorem SL.fgt {G : Cfg} {w : Wd} {us : Lo} {σ : L2.St} (h : SL G w us σ) : ∀ vs : List Nat, SL G w (fgtU us vs) σ
  | [] => h
  | v :: vs => by
    have ih := SL.fgt h vs
    show SL G w ((fgtU us vs).set v none) σ
    refine ⟨by rw [List.length_set]; exact ih.1, fun i u q => ?_⟩
    by_cases e : v = i
    · subst e
      by_cases hl : v < (fgtU us vs).length
      · rw [List.getElem?_set_self hl] at q; cases q
      · rw [List.getElem?_eq_none (by simpa using hl)] at q; cases q
    · rw [List.getElem?_set_ne e] at q
      exact ih.2 i u q
def gFgt (vs : List Nat) (g : Sv) : Sv := fun us h => g (fgtU us vs) h
theorem ss_fgt {X : Cx} {G : Cfg} {W : WX} {l : List Stmt} {vs : List Nat} {g : Sv} (h : PSs X l (tS G g W)) : PSs X l (tS G (gFgt vs g) W) :=
  PSs.imp h fun D σ _ ⟨us, w, e, m, sl, q⟩ => ⟨fgtU us vs, w, e, m, sl.fgt vs, q⟩
theorem at_top {K : PySem.W.Frag} {G : Cfg} (hG : G.K = K) {H : Hp} {a : Addr} {ns : List Int} {F : Fg} (hO : Only H) (hS : SqL K H a (ns.map V.int)) (hl : ns.length ≤ 63) (h : F [.scr ns] = .ok (.bl true)) :
    fnG G 1 F [.ref a] H (fun v _ => v = .bl true) fun _ _ _ => False := by
  have r : ∀ w : Wd, w.H = H → R G w (.scr ns) (.ref a) := by
    rintro w rfl
    rcases hS with (h1 | h1) | h1
    · rcases hO a with h2 | ⟨o, xs, h2⟩
      · rw [h2] at h1; cases h1
      · rw [h2] at h1; cases h1
    · exact .scr (.inl h1)
    · exact .scr (.inr fun H' => .inr (hG ▸ h1))
  refine ⟨rfl, [.scr ns], ⟨fun _ => False, [], [], H⟩, rfl, rfl, rfl, ⟨rfl, .nil, (fun a h => nomatch h), (fun a h => h.elim), (fun i a o h _ => by simp at h)⟩, .cons (r _ rfl) .nil, ?_⟩
  rw [h]
  intro w' v _ _ _ _ _ r
  cases r
  rfl
theorem top_never {P : Program} {w : World} {H : Hp} {s : Shared} {e : Value} {s' : Shared} (h : L2.CX P w [] H s (fun _ _ _ => False) e s') : False := by
  obtain ⟨_, _, _, _, _, _, _, _, _, _, _, _, hE⟩ := h
  exact hE
def okR : Rt → Bool | .rt (.bl true) _ => true | _ => false
theorem okR_fin {r : Rt} (h : okR r = true) : fin r = .ok (.bl true) := by
  unfold okR at h
  split at h
  · rfl
  · cases h
end Fn
/-! the law's numbers: _law_cell, _law_number, _law_drawn -/
namespace Fn
open PySem L2 PySem.Spec PyProof.Rows
def cellB : Sv := (gSeq (gIf (bE (e2 kLt (eVar 1) (eCall kLen (eCons (eVar 0) eNil)))) (gRet (e2 kIx (eVar 0) (eVar 1))) gNx)
  (gRet (e2 kAdd (e2 kAdd (e2 kMul (eC (.int 17)) (eVar 1)) (e2 kMul (eC (.int 3)) (eCall kLen (eCons (eVar 0) eNil)))) (eC (.int 1)))))
def cellF : Fg := runG 2 cellB
def numberB : Sv := (gSeq (gSet 2 (eCall kAbs (eCons (eCallG 2 cellF (eCons (eVar 0) (eCons (eVar 1) eNil))) eNil)))
  (gSeq (gIf (bE (e2 kLt (eVar 2) (e2 (kI cPow fun i j => i ^ j.toNat) (eC (.int 10)) (eC (.int 18))))) (gSeq (gSet 2 (e2 kAdd (e2 kMul (e2 kAdd (eVar 2) (eC (.int 5))) (e2 kAdd (eVar 2) (eC (.int 48271)))) (e2 kMul (eC (.int 69621)) (eVar 1))))
  (gSet 2 (e2 kAdd (e2 kMul (eVar 2) (e2 kAdd (e2 (kI cMod Int.fmod) (eCall kInt (eCons (eVar 2) eNil)) (eC (.int 65537))) (eC (.int 11)))) (e2 (kI cDiv Int.fdiv) (eVar 2) (eC (.int 7)))))) gNx)
  (gRet (eVar 2))))
def numberF : Fg := runG 3 numberB
def drawnB : Sv := (gSeq (gSet 2 (eT (eLRg (eRg2 (eC (.int 1)) (e2 kAdd (eVar 1) (eC (.int 1)))))))
  (gSeq (gSet 3 (eT (eLst eNil)))
  (gSeq (gFor (ir1 (eVar 1)) (aName 4)
  (gSeq (gSet 5 (eCall kLen (eCons (eVar 2) eNil)))
  (gSeq (gEx (eMt kAppend (eVar 3) (eCons (eMt kPopAt (eVar 2) (eCons (e2 (kI cMod Int.fmod) (eCall kInt (eCons (eVar 0) eNil)) (eVar 5)) eNil)) eNil)))
  (gSet 0 (e2 (kI cDiv Int.fdiv) (eVar 0) (eVar 5))))))
  (gRet (eCall kTupC (eCons (eVar 3) eNil))))))
def drawnF : Fg := runG 6 drawnB
theorem atU_nat {α : Type} (xs : List α) (k : Nat) : atU xs (k : Int) = xs[k]? := rfl
theorem cMul_small {i j : Int} (h : i.natAbs < 18446744073709551616) : cMul i j = true := by
  unfold cMul
  rw [Bool.or_eq_true]
  exact .inl (Nat.ble_eq_true_of_le h)
theorem cMul_small2 {i j : Int} (h : j.natAbs < 18446744073709551616) : cMul i j = true := by
  unfold cMul
  rw [Bool.or_eq_true]
  exact .inr (Nat.ble_eq_true_of_le h)
theorem cell_ok (ns : List Int) (k : Nat) : ∃ i : Int, cellF [.scr ns, .int k] = .ok (.int i) := by
  by_cases hk : (k : Int) < (ns.length : Nat)
  · have hk' : k < ns.length := by omega
    refine ⟨ns[k], ?_⟩
    simp [cellF, runG, cellB, startU, gSeq, gIf, bE, e2, eVar, eCall, eCons, eNil, Rs.bind, Rs.then, kLen, kLt, kIB, seqU, lstU, gRet, kIx, atU_nat, hk, hk', fin, frz]
  · refine ⟨17 * k + 3 * ns.length + 1, ?_⟩
    simp [cellF, runG, cellB, startU, gSeq, gIf, bE, e2, eVar, eCall, eCons, eNil, eC, gNx, Rs.bind, Rs.then, kLen, kLt, kIB, seqU, lstU, gRet, kIx, kAdd, kMul, hk, fin, frz, cMul_small (i := 17) (by decide), cMul_small (i := 3) (by decide)]
theorem number_ok (ns : List Int) (k : Nat) : ∃ i : Int, numberF [.scr ns, .int k] = .ok (.int i) := by
  obtain ⟨c, hc⟩ := cell_ok ns k
  generalize ha : (if decide (c < 0) then -c else c) = a
  have ha0 : 0 ≤ a := by
    rw [← ha]
    split <;> rename_i h <;> simp at h <;> omega
  have hq : Nat.blt 7 1073741824 = true := by decide
  have hp : (Nat.ble 18 1000000 && Nat.blt 10 18446744073709551616) = true := by decide
  by_cases hk : a < 1000000000000000000
  · have h1 : cMul (a + 5) (a + 48271) = true := cMul_small (by omega)
    have h3 : ∀ x : Int, cMul x (Int.fmod x 65537 + 11) = true := fun x => cMul_small2 (by
      rw [Int.fmod_eq_emod_of_nonneg x (b := 65537) (by decide)]
      omega)
    have ha' : (if c < 0 then -c else c) = a := by simpa using ha
    simp [numberF, runG, numberB, startU, gSeq, gIf, gSet, bE, e2, eVar, eCall, eCallG, pureU, eCons, eNil, eC, gNx, Rs.bind, Rs.then, kAbs, kLt, kI, kIB, kInt, gRet, kAdd, kMul, hc, cPow, cMod, cDiv, fin, frz, cMul_small (i := 69621) (by decide), hp, hq, ha', hk, h1, h3]
  · refine ⟨a, ?_⟩
    simp [numberF, runG, numberB, startU, gSeq, gIf, gSet, bE, e2, eVar, eCall, eCallG, pureU, eCons, eNil, eC, gNx, Rs.bind, Rs.then, kAbs, kLt, kI, kIB, kInt, gRet, kAdd, kMul, hc, cPow, cMod, cDiv, fin, frz, cMul_small (i := 69621) (by decide), hp]
    simp only [decide_eq_true_eq] at ha
    simp [ha, hk]
/-- all that may be drawn -/
def draws : Nat → List Int → List (List Int)
  | 0, _ => [[]]
  | k + 1, L => (List.range L.length).flatMap fun i => match L[i]? with | some x => (draws k (L.eraseIdx i)).map (x :: ·) | none => []
def drawnBd : Sv := (gSeq (gSet 5 (eCall kLen (eCons (eVar 2) eNil)))
  (gSeq (gEx (eMt kAppend (eVar 3) (eCons (eMt kPopAt (eVar 2) (eCons (e2 (kI cMod Int.fmod) (eCall kInt (eCons (eVar 0) eNil)) (eVar 5)) eNil)) eNil)))
  (gSet 0 (e2 (kI cDiv Int.fdiv) (eVar 0) (eVar 5)))))
theorem szOk_of {n : Nat} (h : n ≤ 16777216) : szOk n = true := Nat.ble_eq_true_of_le h
theorem map_erase {α β : Type} {f : α → β} : ∀ (l : List α) (i : Nat), (l.map f).eraseIdx i = (l.eraseIdx i).map f
  | [], _ => rfl
  | _ :: _, 0 => rfl
  | x :: r, i + 1 => by simp [map_erase r i]
theorem drawn_step (n : Int) (c u5 : Option U) (x : U) (L R : List Int) (h0 : 0 < L.length) (h1 : L.length ≤ 1000) (h2 : R.length ≤ 1000) :
    ∃ (j : Nat) (y : Int), j < L.length ∧ L[j]? = some y ∧ ∃ n' : Int, drawnBd [some (.int n), c, some (.ref 0), some (.ref 1), some x, u5] [.lst (L.map .int), .lst (R.map .int)] =
      .nx [some (.int n'), c, some (.ref 0), some (.ref 1), some x, some (.int (L.length : Nat))] [.lst ((L.eraseIdx j).map .int), .lst ((R ++ [y]).map .int)] := by
  have e := Int.fmod_eq_emod_of_nonneg n (b := (L.length : Int)) (by omega)
  have q0 : 0 ≤ Int.fmod n (L.length : Int) := by rw [e]; exact Int.emod_nonneg _ (by omega)
  have q1 : Int.fmod n (L.length : Int) < (L.length : Int) := by rw [e]; exact Int.emod_lt_of_pos _ (by omega)
  generalize hi : Int.fmod n (L.length : Int) = i at q0 q1
  have hj : ixN L.length i = some i.toNat := by
    unfold ixN
    rw [if_pos q0, if_pos q1]
  have hjl : i.toNat < L.length := by omega
  have hz : ((L.length : Int) == 0) = false := by
    apply beq_false_of_ne; omega
  have hb : Nat.blt ((L.length : Int)).natAbs 1073741824 = true := Nat.ble_eq_true_of_le (by omega)
  have hb2 : Nat.blt L.length 1073741824 = true := Nat.ble_eq_true_of_le (by omega)
  have s1 : szOk L.length = true := szOk_of (by omega)
  have s2 : szOk (R.length + 1) = true := szOk_of (by omega)
  refine ⟨i.toNat, L[i.toNat], hjl, List.getElem?_eq_getElem hjl, Int.fdiv n (L.length : Int), ?_⟩
  simp [drawnBd, gSeq, gSet, gEx, eCall, e2, eVar, eCons, eNil, eMt, Rs.bind, Rs.then, kLen, kInt, kI, kPopAt, kAppend, cMod, cDiv, lstU, hi, hj, hjl, hz, hb, hb2, s1, s2]
  exact map_erase L i.toNat
theorem drawn_loop : ∀ (xs : List U) (L R : List Int) (n : Int) (c u4 u5 : Option U), xs.length ≤ L.length → L.length + R.length ≤ 1000 →
    ∃ p ∈ draws xs.length L, ∃ us' L', forL (aName 4) drawnBd xs [some (.int n), c, some (.ref 0), some (.ref 1), u4, u5] [.lst (L.map .int), .lst (R.map .int)] = .nx us' [.lst L', .lst ((R ++ p).map .int)] ∧ us'[3]? = some (some (.ref 1))
  | [], L, R, n, c, u4, u5, _, _ => ⟨[], by simp [draws], _, _, by simp [forL]; exact ⟨rfl, rfl⟩, rfl⟩
  | x :: xs, L, R, n, c, u4, u5, h1, h2 => by
    rw [List.length_cons] at h1
    obtain ⟨j, y, hj, hy, n', e⟩ := drawn_step n c u5 x L R (by omega) (by omega) (by omega)
    have hl : (L.eraseIdx j).length = L.length - 1 := by rw [List.length_eraseIdx]; simp [hj]
    obtain ⟨p, hp, us', L', e2, e3⟩ := drawn_loop xs (L.eraseIdx j) (R ++ [y]) n' c (some x) (some (.int (L.length : Nat))) (by omega) (by rw [List.length_append, List.length_singleton]; omega)
    refine ⟨y :: p, ?_, us', L', ?_, e3⟩
    · show y :: p ∈ draws (xs.length + 1) L
      unfold draws
      refine List.mem_flatMap.mpr ⟨j, List.mem_range.mpr hj, ?_⟩
      rw [hy]
      exact List.mem_map.mpr ⟨p, hp, rfl⟩
    · unfold forL
      show (match drawnBd [some (.int n), c, some (.ref 0), some (.ref 1), some x, u5] [.lst (L.map .int), .lst (R.map .int)] with | .nx us2 h2 => _ | .ct us2 h2 => _ | .bk us2 h2 => _ | q => q) = _
      rw [e]
      show forL _ _ _ _ _ = _
      rw [e2]
      simp
def nums (a n : Nat) : List Int := (List.range n).map fun i => (a : Int) + (i : Nat)
theorem mapO_frz {n : Nat} {h : List UO} : ∀ l : List Int, mapO (frz (n + 1) h) (l.map U.int) = some (l.map U.int)
  | [] => rfl
  | x :: r => by
    have := mapO_frz (n := n) (h := h) r
    simp only [List.map_cons, mapO, this]
    rfl
theorem gSeq_nx {a b : Sv} {us us1 : Lo} {h h1 : List UO} (e : a us h = .nx us1 h1) : gSeq a b us h = b us1 h1 := by
  unfold gSeq
  rw [e]
theorem gSeq_assoc (a b c : Sv) : gSeq (gSeq a b) c = gSeq a (gSeq b c) := by
  funext us h
  unfold gSeq
  cases a us h <;> rfl
theorem drawn_ok (n : Int) (c : Nat) (hc : c ≤ 100) : ∃ p ∈ draws c (nums 1 c), drawnF [.int n, .int c] = .ok (.tup (p.map .int)) := by
  have g1 : rgOk 1 ((c : Int) + 1) = true := by
    unfold rgOk
    rw [Bool.and_eq_true, Bool.and_eq_true]
    refine ⟨⟨by decide, Nat.ble_eq_true_of_le (by omega)⟩, szOk_of (by omega)⟩
  have g2 : rgU 1 ((c : Int) + 1) = (nums 1 c).map U.int := by
    unfold rgU nums
    rw [show ((c : Int) + 1 - 1).toNat = c by omega, List.map_map]
    rfl
  have g3 : rgOk 0 (c : Int) = true := by
    unfold rgOk
    rw [Bool.and_eq_true, Bool.and_eq_true]
    refine ⟨⟨by decide, Nat.ble_eq_true_of_le (by omega)⟩, szOk_of (by omega)⟩
  have g4 : (rgU 0 (c : Int)).length = c := by
    unfold rgU
    rw [List.length_map, List.length_range]
    omega
  have g5 : (nums 1 c).length = c := by unfold nums; rw [List.length_map, List.length_range]
  obtain ⟨p, hp, us', L', q1, q2⟩ := drawn_loop (rgU 0 (c : Int)) (nums 1 c) [] n (some (.int c)) none none (by omega) (by simp; omega)
  rw [g4] at hp
  refine ⟨p, hp, ?_⟩
  have s0 : szOk 0 = true := rfl
  have k : drawnB (startU 6 [.int n, .int c]) [] = .rt (.tup (p.map .int)) [.lst L', .lst (p.map .int)] := by
    unfold drawnB
    have w1 : gSet 2 (eT (eLRg (eRg2 (eC (.int 1)) (e2 kAdd (eVar 1) (eC (.int 1)))))) (startU 6 [.int n, .int c]) [] = .nx [some (.int n), some (.int c), some (.ref 0), none, none, none] [.lst ((nums 1 c).map .int)] := by
      simp [startU, gSet, eT, eLRg, eRg2, eC, eVar, Rs.bind, Rs.then, kAdd, Fn.e2, g1, g2]
    have w2 : gSet 3 (eT (eLst eNil)) [some (.int n), some (.int c), some (.ref 0), none, none, none] [.lst ((nums 1 c).map .int)] = .nx [some (.int n), some (.int c), some (.ref 0), some (.ref 1), none, none] [.lst ((nums 1 c).map .int), .lst []] := by
      simp [gSet, eT, eLst, eNil, Rs.bind, Rs.then, s0]
    have w3 : gFor (ir1 (eVar 1)) (aName 4) drawnBd [some (.int n), some (.int c), some (.ref 0), some (.ref 1), none, none] [.lst ((nums 1 c).map .int), .lst []] = .nx us' [.lst L', .lst (p.map .int)] := by
      simp only [gFor, ir1, eVar, Rs.bind, Rs.then, List.getElem?_cons_zero, List.getElem?_cons_succ, g3]
      simpa using q1
    have w4 : gRet (eCall kTupC (eCons (eVar 3) eNil)) us' [.lst L', .lst (p.map .int)] = .rt (.tup (p.map .int)) [.lst L', .lst (p.map .int)] := by
      simp [gRet, eCall, eCons, eNil, eVar, q2, Rs.bind, Rs.then, kTupC, lstU]
    exact (gSeq_nx w1).trans ((gSeq_nx w2).trans ((gSeq_nx w3).trans w4))
  show fin _ = _
  rw [k]
  show (match frz 8 _ (.tup (p.map .int)) with | some u' => Rg.ok u' | none => .no) = _
  show (match (match mapO (frz 7 _) (p.map U.int) with | some ys => some (U.tup ys) | none => none) with | some u' => Rg.ok u' | none => .no) = _
  rw [mapO_frz]
theorem all_chunks {α : Type} (f : α → Bool) (n K : Nat) (l : List α) (hl : l.length ≤ K * n) (h : ∀ k, k < K → ((l.drop (k * n)).take n).all f = true) : l.all f = true := by
  rw [List.all_eq_true]
  intro x hx
  obtain ⟨i, hi, rfl⟩ := List.getElem_of_mem hx
  have hn : 0 < n := by
    rcases Nat.eq_zero_or_pos n with z | z
    · subst z; omega
    · exact z
  have hk : i / n < K := Nat.div_lt_of_lt_mul (by rw [Nat.mul_comm]; omega)
  have e : i = i / n * n + i % n := by rw [Nat.mul_comm]; exact (Nat.div_add_mod i n).symm
  have hm := Nat.mod_lt i hn
  refine List.all_eq_true.mp (h _ hk) _ (List.mem_of_getElem? (i := i % n) ?_)
  rw [List.getElem?_take_of_lt hm, List.getElem?_drop, ← e]
  exact List.getElem?_eq_getElem hi
end Fn
/-! the same evaluators, by recursors: for the kernel's own reckoning -/
namespace Fn
open PySem L2
noncomputable section
/-! ### lists -/
def getA {α : Type} (l : List α) : Nat → Option α := List.rec (fun _ => none) (fun x _ ih i => Nat.rec (some x) (fun j _ => ih j) i) l
def setA {α : Type} (l : List α) (y : α) : Nat → List α := List.rec (fun _ => []) (fun x r ih i => Nat.rec (y :: r) (fun j _ => x :: ih j) i) l
def appA {α : Type} (l m : List α) : List α := List.rec m (fun x _ ih => x :: ih) l
def lenA {α : Type} (l : List α) : Nat := List.rec 0 (fun _ _ ih => Nat.succ ih) l
def mapA {α β : Type} (f : α → β) (l : List α) : List β := List.rec [] (fun x _ ih => f x :: ih) l
def allA {α : Type} (f : α → Bool) (l : List α) : Bool := List.rec true (fun x _ ih => Bool.rec false ih (f x)) l
def omapA {α β : Type} (f : α → Option β) (l : List α) : Option (List β) := List.rec (some []) (fun x _ ih => Option.rec none (fun y => Option.rec none (fun ys => some (y :: ys)) ih) (f x)) l
theorem getA_eq {α : Type} : ∀ (l : List α) (i : Nat), getA l i = l[i]?
  | [], _ => rfl
  | _ :: _, 0 => rfl
  | _ :: r, i + 1 => by
    rw [List.getElem?_cons_succ, ← getA_eq r i]
    rfl
theorem setA_eq {α : Type} (y : α) : ∀ (l : List α) (i : Nat), setA l y i = l.set i y
  | [], _ => rfl
  | _ :: _, 0 => rfl
  | x :: r, i + 1 => by
    show x :: setA r y i = _
    rw [setA_eq y r i]
    rfl
theorem appA_eq {α : Type} (m : List α) : ∀ l : List α, appA l m = l ++ m
  | [] => rfl
  | x :: r => by
    show x :: appA r m = _
    rw [appA_eq m r]
    rfl
theorem lenA_eq {α : Type} : ∀ l : List α, lenA l = l.length
  | [] => rfl
  | x :: r => by
    show Nat.succ (lenA r) = _
    rw [lenA_eq r]
    rfl
theorem mapA_eq {α β : Type} (f : α → β) : ∀ l : List α, mapA f l = l.map f
  | [] => rfl
  | x :: r => by
    show f x :: mapA f r = _
    rw [mapA_eq f r]
    rfl
theorem allA_eq {α : Type} (f : α → Bool) : ∀ l : List α, allA f l = l.all f
  | [] => rfl
  | x :: r => by
    have e : allA f (x :: r) = Bool.rec false (allA f r) (f x) := rfl
    rw [e, allA_eq f r, List.all_cons]
    cases f x <;> rfl
theorem omapA_eq {α β : Type} (f : α → Option β) : ∀ l : List α, omapA f l = mapO f l
  | [] => rfl
  | x :: r => by
    have e : omapA f (x :: r) = Option.rec none (fun y => Option.rec none (fun ys => some (y :: ys)) (omapA f r)) (f x) := rfl
    have e2 : mapO f (x :: r) = (match f x with | some y => (match mapO f r with | some ys => some (y :: ys) | none => none) | none => none) := rfl
    rw [e, e2, omapA_eq f r]
    cases f x with
    | none => rfl
    | some y => cases mapO f r <;> rfl
/-! ### numbers -/
def ltA (i j : Int) : Bool := Int.rec (fun a => Int.rec (fun b => Nat.blt a b) (fun _ => false) j) (fun a => Int.rec (fun _ => true) (fun b => Nat.blt b a) j) i
theorem beqA (a b : Nat) : Nat.beq a b = (a == b) := by
  rw [Bool.eq_iff_iff, beq_iff_eq]
  exact ⟨Nat.eq_of_beq_eq_true, fun h => by rw [h]; exact Nat.beq_refl b⟩
def eqA (i j : Int) : Bool := Int.rec (fun a => Int.rec (fun b => Nat.beq a b) (fun _ => false) j) (fun a => Int.rec (fun _ => false) (fun b => Nat.beq a b) j) i
theorem blt_eq (a b : Nat) : Nat.blt a b = decide (a < b) := by
  rw [Bool.eq_iff_iff, decide_eq_true_iff]
  exact ⟨Nat.le_of_ble_eq_true, Nat.ble_eq_true_of_le⟩
theorem ltA_eq (i j : Int) : ltA i j = decide (i < j) := by
  cases i with
  | ofNat a =>
    cases j with
    | ofNat b =>
      show Nat.blt a b = _
      rw [blt_eq, Bool.eq_iff_iff, decide_eq_true_iff, decide_eq_true_iff]
      exact Int.ofNat_lt.symm
    | negSucc b =>
      show false = _
      rw [eq_comm, decide_eq_false_iff_not, Int.negSucc_eq, Int.ofNat_eq_natCast]
      omega
  | negSucc a =>
    cases j with
    | ofNat b =>
      show true = _
      rw [eq_comm, decide_eq_true_iff, Int.negSucc_eq, Int.ofNat_eq_natCast]
      omega
    | negSucc b =>
      show Nat.blt b a = _
      rw [blt_eq, Bool.eq_iff_iff, decide_eq_true_iff, decide_eq_true_iff]
      rw [Int.negSucc_eq, Int.negSucc_eq]
      omega
theorem eqA_eq (i j : Int) : eqA i j = (i == j) := by
  rw [Bool.eq_iff_iff, beq_iff_eq]
  cases i with
  | ofNat a =>
    cases j with
    | ofNat b =>
      show Nat.beq a b = true ↔ _
      rw [beqA, beq_iff_eq]
      exact ⟨fun h => by rw [h], fun h => Int.ofNat.inj h⟩
    | negSucc b => exact ⟨fun h => Bool.noConfusion h, fun h => by cases h⟩
  | negSucc a =>
    cases j with
    | ofNat b => exact ⟨fun h => Bool.noConfusion h, fun h => by cases h⟩
    | negSucc b =>
      show Nat.beq a b = true ↔ _
      rw [beqA, beq_iff_eq]
      exact ⟨fun h => by rw [h], fun h => Int.negSucc.inj h⟩
/-- as ints -/
def intsA (l : List U) : Option (List Int) := omapA (fun u => U.casesOn u none (fun _ => none) (fun i => some i) (fun _ => none) (fun _ => none) (fun _ => none) (fun _ => none) (fun _ => none) (fun _ _ => none) (fun _ => none) (fun _ => none)) l
theorem intsA_eq : ∀ l : List U, intsA l = toInts l
  | [] => rfl
  | x :: r => by
    have ih := intsA_eq r
    unfold intsA at ih ⊢
    rw [omapA_eq] at ih ⊢
    unfold mapO
    rw [ih]
    cases x with
    | int i => show _ = (match toInts r with | some ns => some (i :: ns) | none => none); cases toInts r <;> rfl
    | _ => rfl
def maxA (l : List Int) : Int → Int := List.rec (fun m => m) (fun x _ ih m => ih (Bool.rec m x (ltA m x))) l
def minA (l : List Int) : Int → Int := List.rec (fun m => m) (fun x _ ih m => ih (Bool.rec m x (ltA x m))) l
theorem maxA_eq : ∀ (l : List Int) (m : Int), maxA l m = maxI m l
  | [], _ => rfl
  | x :: r, m => by
    show maxA r (Bool.rec m x (ltA m x)) = _
    rw [maxA_eq r, ltA_eq, maxI]
    cases decide (m < x) <;> rfl
theorem minA_eq : ∀ (l : List Int) (m : Int), minA l m = minI m l
  | [], _ => rfl
  | x :: r, m => by
    show minA r (Bool.rec m x (ltA x m)) = _
    rw [minA_eq r, ltA_eq, minI]
    cases decide (x < m) <;> rfl
def sumA (l : List Int) : Int := List.rec 0 (fun x _ ih => x + ih) l
theorem sumA_eq : ∀ l : List Int, sumA l = sumI l
  | [] => rfl
  | x :: r => by
    show x + sumA r = _
    rw [sumA_eq r]
    rfl
def rgA (n : Nat) : Nat → List U := Nat.rec (fun _ => []) (fun _ ih lo => .int (.ofNat lo) :: ih (Nat.succ lo)) n
theorem rgA_eq : ∀ (n lo : Nat), rgA n lo = (List.range n).map fun i => U.int ((lo : Int) + (i : Nat))
  | 0, _ => rfl
  | n + 1, lo => by
    show U.int (.ofNat lo) :: rgA n (lo + 1) = _
    rw [rgA_eq n (lo + 1), List.range_succ_eq_map, List.map_cons, List.map_map]
    have z : U.int (.ofNat lo) = U.int ((lo : Int) + ((0 : Nat) : Int)) := by
      congr 1
    rw [z]
    congr 1
    refine List.map_congr_left fun i _ => ?_
    show U.int (((lo + 1 : Nat) : Int) + (i : Int)) = U.int ((lo : Int) + ((i + 1 : Nat) : Int))
    congr 1
    omega
/-- lo, .., hi - 1 -/
def rgUA (a b : Int) : List U := Int.rec (fun lo => Int.rec (fun hi => rgA (hi - lo) lo) (fun _ => rgU a b) b) (fun _ => rgU a b) a
theorem rgUA_eq (a b : Int) : rgUA a b = rgU a b := by
  cases a with
  | ofNat lo =>
    cases b with
    | ofNat hi =>
      show rgA (hi - lo) lo = rgU (lo : Int) (hi : Int)
      rw [rgA_eq]
      unfold rgU
      rw [show ((hi : Int) - (lo : Int)).toNat = hi - lo by omega]
    | negSucc _ => rfl
  | negSucc _ => rfl
/-! ### evaluators -/
def xVar (i : Nat) : Ev := fun us h => Option.rec .no (fun o => Option.rec .no (fun u => .ok u h) o) (getA us i)
theorem xVar_eq : xVar = eVar := by
  funext i us h
  show (Option.rec _ _ (getA us i) : Rs U) = _
  rw [getA_eq]
  unfold eVar
  cases us[i]? with
  | none => rfl
  | some o => cases o <;> rfl
def xE1 (k : U → List UO → Rs U) (fa : Ev) : Ev := fun us h => Rs.rec (fun a h1 => k a h1) (fun e h1 => .ex e h1) .no (fa us h)
def xE2 (k : U → U → List UO → Rs U) (fa fb : Ev) : Ev := fun us h => Rs.rec (fun a h1 => Rs.rec (fun b h2 => k a b h2) (fun e h2 => .ex e h2) .no (fb us h1)) (fun e h1 => .ex e h1) .no (fa us h)
theorem xE1_eq : xE1 = e1 := by
  funext k fa us h
  show Rs.rec _ _ _ (fa us h) = (fa us h).bind _
  cases fa us h <;> rfl
theorem xE2_eq : xE2 = e2 := by
  funext k fa fb us h
  show Rs.rec _ _ _ (fa us h) = (fa us h).bind _
  cases fa us h with
  | ok a h1 =>
    show Rs.rec _ _ _ (fb us h1) = (fb us h1).bind _
    cases fb us h1 <;> rfl
  | ex _ _ => rfl
  | no => rfl
def xCons (fa : Ev) (fr : EvA) : EvA := fun us h => Rs.rec (fun a h1 => Rs.rec (fun r h2 => .ok (a :: r) h2) (fun e h2 => .ex e h2) .no (fr us h1)) (fun e h1 => .ex e h1) .no (fa us h)
theorem xCons_eq : xCons = eCons := by
  funext fa fb us h
  show Rs.rec _ _ _ (fa us h) = (fa us h).bind _
  cases fa us h with
  | ok a h1 =>
    show Rs.rec _ _ _ (fb us h1) = (fb us h1).bind _
    cases fb us h1 <;> rfl
  | ex _ _ => rfl
  | no => rfl
def onI (u : U) (k : Int → Rs U) (d : Rs U) : Rs U := U.casesOn u d (fun _ => d) k (fun _ => d) (fun _ => d) (fun _ => d) (fun _ => d) (fun _ => d) (fun _ _ => d) (fun _ => d) (fun _ => d)
/-- ints at once, else as it is -/
def xII (k : U → U → List UO → Rs U) (f : Int → Int → List UO → Rs U) (x y : U) (h : List UO) : Rs U := onI x (fun i => onI y (fun j => f i j h) (k x y h)) (k x y h)
theorem xII_eq {k : U → U → List UO → Rs U} {f : Int → Int → List UO → Rs U} (hf : ∀ i j h, f i j h = k (.int i) (.int j) h) : xII k f = k := by
  funext x y h
  cases x with
  | int i => cases y with
    | int j => exact hf i j h
    | _ => rfl
  | _ => rfl
def xAddS (x y : U) (h : List UO) : Rs U := U.casesOn x (kAdd x y h) (fun _ => kAdd x y h) (fun i => onI y (fun j => .ok (.int (i + j)) h) (kAdd x y h)) (fun _ => kAdd x y h) (fun _ => kAdd x y h)
  (fun xs => U.casesOn y (kAdd x y h) (fun _ => kAdd x y h) (fun _ => kAdd x y h) (fun _ => kAdd x y h) (fun _ => kAdd x y h) (fun ys => Bool.rec .no (.ok (.tup (appA xs ys)) h) (szOk (lenA xs + lenA ys))) (fun _ => kAdd x y h) (fun _ => kAdd x y h) (fun _ _ => kAdd x y h) (fun _ => kAdd x y h) (fun _ => (kAdd x y h)))
  (fun xs => U.casesOn y (kAdd x y h) (fun _ => kAdd x y h) (fun _ => kAdd x y h) (fun _ => kAdd x y h) (fun _ => kAdd x y h) (fun _ => kAdd x y h) (fun ys => Bool.rec .no (.ok (.fl (appA xs ys)) h) (szOk (lenA xs + lenA ys))) (fun _ => kAdd x y h) (fun _ _ => kAdd x y h) (fun _ => kAdd x y h) (fun _ => (kAdd x y h)))
  (fun _ => kAdd x y h) (fun _ _ => kAdd x y h) (fun _ => kAdd x y h) (fun _ => (kAdd x y h))
theorem xAddS_eq : xAddS = kAdd := by
  funext x y h
  cases x with
  | int i => cases y <;> rfl
  | tup xs => cases y with
    | tup ys =>
      show Bool.rec _ _ (szOk (lenA xs + lenA ys)) = if szOk (xs.length + ys.length) then Rs.ok (U.tup (xs ++ ys)) h else Rs.no
      rw [lenA_eq, lenA_eq, appA_eq]
      cases szOk (xs.length + ys.length) <;> rfl
    | _ => rfl
  | fl xs => cases y with
    | fl ys =>
      show Bool.rec _ _ (szOk (lenA xs + lenA ys)) = if szOk (xs.length + ys.length) then Rs.ok (U.fl (xs ++ ys)) h else Rs.no
      rw [lenA_eq, lenA_eq, appA_eq]
      cases szOk (xs.length + ys.length) <;> rfl
    | _ => rfl
  | _ => rfl
def xLt := xII kLt fun i j h => .ok (.bl (ltA i j)) h
def xGt := xII kGt fun i j h => .ok (.bl (ltA j i)) h
def xLe := xII kLe fun i j h => .ok (.bl (Bool.rec true false (ltA j i))) h
def xGe := xII kGe fun i j h => .ok (.bl (Bool.rec true false (ltA i j))) h
def xEq := xII kEq fun i j h => .ok (.bl (eqA i j)) h
def xNe := xII kNe fun i j h => .ok (.bl (Bool.rec true false (eqA i j))) h
theorem xLt_eq : xLt = kLt := xII_eq fun i j h => by rw [ltA_eq]; rfl
theorem xGt_eq : xGt = kGt := xII_eq fun i j h => by rw [ltA_eq]; rfl
theorem not_lt_dec (i j : Int) : (Bool.rec true false (decide (i < j)) : Bool) = decide (j ≤ i) := by
  by_cases q : i < j
  · rw [decide_eq_true q, decide_eq_false (by omega)]
  · rw [decide_eq_false q, decide_eq_true (by omega)]
theorem xLe_eq : xLe = kLe := xII_eq fun i j h => by rw [ltA_eq, not_lt_dec]; rfl
theorem xGe_eq : xGe = kGe := xII_eq fun i j h => by rw [ltA_eq, not_lt_dec]; rfl
theorem xEq_eq : xEq = kEq := xII_eq fun i j h => by rw [eqA_eq]; rfl
theorem xNe_eq : xNe = kNe := xII_eq fun i j h => by
  rw [eqA_eq]
  show _ = Rs.ok (U.bl (!(i == j))) h
  cases (i == j) <;> rfl
def seqA (h : List UO) (u : U) : Option (List U) := U.casesOn u none (fun _ => none) (fun _ => none) (fun _ => none) (fun _ => none) (fun xs => some xs) (fun xs => some xs) (fun xs => some (xs.map .int)) (fun _ _ => none)
  (fun i => Option.rec none (fun o => UO.casesOn o (fun xs => some xs) (fun _ => none) (fun _ => none) (fun _ _ => none)) (getA h i)) (fun _ => none)
theorem seqA_eq : seqA = seqU := by
  funext h u
  cases u with
  | ref i =>
    show (Option.rec _ _ (getA h i) : Option (List U)) = _
    rw [getA_eq]
    unfold seqU lstU
    dsimp only
    cases h[i]? with
    | none => rfl
    | some o => cases o <;> rfl
  | _ => rfl
def lstA (h : List UO) (u : U) : Option (List U) := U.casesOn u none (fun _ => none) (fun _ => none) (fun _ => none) (fun _ => none) (fun xs => none) (fun xs => some xs) (fun xs => some (xs.map .int)) (fun _ _ => none)
  (fun i => Option.rec none (fun o => UO.casesOn o (fun xs => some xs) (fun _ => none) (fun _ => none) (fun _ _ => none)) (getA h i)) (fun _ => none)
theorem lstA_eq : lstA = lstU := by
  funext h u
  cases u with
  | ref i =>
    show (Option.rec _ _ (getA h i) : Option (List U)) = _
    rw [getA_eq]
    unfold lstU
    dsimp only
    cases h[i]? with
    | none => rfl
    | some o => cases o <;> rfl
  | _ => rfl
def xIx (x y : U) (h : List UO) : Rs U := onI y (fun i => Int.rec (fun n => U.casesOn x (kIx x y h) (fun _ => kIx x y h) (fun _ => kIx x y h) (fun _ => kIx x y h) (fun _ => kIx x y h)
    (fun xs => Option.rec .no (fun u => .ok u h) (getA xs n)) (fun xs => Option.rec .no (fun u => .ok u h) (getA xs n)) (fun _ => kIx x y h) (fun _ _ => kIx x y h)
    (fun p => Option.rec .no (fun xs => Option.rec .no (fun u => .ok u h) (getA xs n)) (seqA h (.ref p))) (fun _ => (kIx x y h))) (fun _ => kIx x y h) i) (kIx x y h)
theorem xIx_eq : xIx = kIx := by
  funext x y h
  cases y with
  | int i =>
    cases i with
    | ofNat n =>
      cases x with
      | tup xs =>
        show Option.rec _ _ (getA xs n) = (match xs[n]? with | some u => Rs.ok u h | none => .no)
        rw [getA_eq]
        cases xs[n]? <;> rfl
      | fl xs =>
        show Option.rec _ _ (getA xs n) = (match xs[n]? with | some u => Rs.ok u h | none => .no)
        rw [getA_eq]
        cases xs[n]? <;> rfl
      | ref p =>
        show Option.rec _ _ (seqA h (.ref p)) = (match seqU h (.ref p) with | some xs => (match xs[n]? with | some u => Rs.ok u h | none => .no) | none => .no)
        rw [seqA_eq]
        cases seqU h (.ref p) with
        | none => rfl
        | some xs =>
          show Option.rec _ _ (getA xs n) = (match xs[n]? with | some u => Rs.ok u h | none => .no)
          rw [getA_eq]
          cases xs[n]? <;> rfl
      | _ => rfl
    | negSucc n => rfl
  | _ => rfl
/-! #### calls -/
def on1 (l : List U) (k : U → Rs U) (d : Rs U) : Rs U := List.rec d (fun u r _ => List.rec (k u) (fun _ _ _ => d) r) l
def xCall (k : List U → List UO → Rs U) (fa : EvA) : Ev := fun us h => Rs.rec (fun a h1 => k a h1) (fun e h1 => .ex e h1) .no (fa us h)
theorem xCall_eq : xCall = eCall := by
  funext k fa us h
  show Rs.rec _ _ _ (fa us h) = (fa us h).bind _
  cases fa us h <;> rfl
def xLen (l : List U) (h : List UO) : Rs U := on1 l (fun u => U.casesOn u (kLen l h) (fun _ => kLen l h) (fun _ => kLen l h) (fun _ => kLen l h) (fun _ => kLen l h) (fun xs => .ok (.int (.ofNat (lenA xs))) h) (fun xs => .ok (.int (.ofNat (lenA xs))) h) (fun _ => kLen l h) (fun _ _ => kLen l h)
  (fun i => Option.rec .no (fun o => UO.casesOn o (fun xs => .ok (.int (.ofNat (lenA xs))) h) (fun _ => kLen l h) (fun _ => kLen l h) (fun _ _ => kLen l h)) (getA h i)) (fun _ => (kLen l h))) (kLen l h)
theorem xLen_eq : xLen = kLen := by
  funext l h
  cases l with
  | nil => rfl
  | cons u r =>
    cases r with
    | cons _ _ => rfl
    | nil =>
      cases u with
      | tup xs => show Rs.ok (U.int (.ofNat (lenA xs))) h = _; rw [lenA_eq]; rfl
      | fl xs => show Rs.ok (U.int (.ofNat (lenA xs))) h = _; rw [lenA_eq]; rfl
      | ref i =>
        show Option.rec _ _ (getA h i) = kLen [.ref i] h
        rw [getA_eq]
        unfold kLen
        dsimp only
        cases h[i]? with
        | none => rfl
        | some o => cases o with
          | lst xs => show Rs.ok (U.int (.ofNat (lenA xs))) h = _; rw [lenA_eq]; rfl
          | _ => rfl
      | _ => rfl
def xMaxL (h : List UO) (u : U) : Rs U := Option.rec .no (fun xs => Option.rec .no (fun ns => List.rec .no (fun n r _ => .ok (.int (maxA r n)) h) ns) (intsA xs)) (lstA h u)
def xMax (l : List U) (h : List UO) : Rs U := on1 l (fun u => xMaxL h u) (kMax l h)
theorem xMax_eq : xMax = kMax := by
  funext l h
  have key : ∀ u, xMaxL h u = (match lstU h u with | some xs => (match toInts xs with | some (n :: ns) => (Rs.ok (U.int (maxI n ns)) h : Rs U) | _ => .no) | none => .no) := fun u => by
    unfold xMaxL
    rw [lstA_eq]
    cases lstU h u with
    | none => rfl
    | some xs =>
      show (Option.rec _ _ (intsA xs) : Rs U) = _
      rw [intsA_eq]
      dsimp only
      cases toInts xs with
      | none => rfl
      | some ns =>
        cases ns with
        | nil => rfl
        | cons n r => show Rs.ok (U.int (maxA r n)) h = _; rw [maxA_eq]
  cases l with
  | nil => rfl
  | cons u r =>
    cases r with
    | cons _ _ => rfl
    | nil => exact (key u).trans (by cases u <;> rfl)
def xMaxD (x d : U) (h : List UO) : Rs U := onI d (fun d => Option.rec .no (fun xs => Option.rec .no (fun ns => .ok (.int (List.rec d (fun n r _ => maxA r n) ns)) h) (intsA xs)) (seqA h x)) .no
theorem xMaxD_eq : xMaxD = kMaxD := by
  funext x d h
  cases d with
  | int d =>
    show Option.rec _ _ (seqA h x) = (match seqU h x with | some xs => (match toInts xs with | some ns => (Rs.ok (U.int (match ns with | [] => d | n :: r => maxI n r)) h : Rs U) | none => .no) | none => .no)
    rw [seqA_eq]
    cases seqU h x with
    | none => rfl
    | some xs =>
      show (Option.rec _ _ (intsA xs) : Rs U) = _
      rw [intsA_eq]
      dsimp only
      cases toInts xs with
      | none => rfl
      | some ns => cases ns with
        | nil => rfl
        | cons n r => show Rs.ok (U.int (maxA r n)) h = _; rw [maxA_eq]
  | _ => rfl
def xSum (l : List U) (h : List UO) : Rs U := on1 l (fun u => Option.rec .no (fun xs => Option.rec .no (fun ns => .ok (.int (sumA ns)) h) (intsA xs)) (lstA h u)) .no
theorem xSum_eq : xSum = kSum := by
  funext l h
  cases l with
  | nil => rfl
  | cons u r =>
    cases r with
    | cons _ _ => rfl
    | nil =>
      show Option.rec _ _ (lstA h u) = (match lstU h u with | some xs => (match toInts xs with | some ns => (Rs.ok (U.int (sumI ns)) h : Rs U) | _ => .no) | none => .no)
      rw [lstA_eq]
      cases lstU h u with
      | none => rfl
      | some xs =>
        show (Option.rec _ _ (intsA xs) : Rs U) = _
        rw [intsA_eq]
        dsimp only
        cases toInts xs with
        | none => rfl
        | some ns => show Rs.ok (U.int (sumA ns)) h = _; rw [sumA_eq]
def xTupC (l : List U) (h : List UO) : Rs U := on1 l (fun u => Option.rec .no (fun xs => .ok (.tup xs) h) (seqA h u)) .no
theorem xTupC_eq : xTupC = kTupC := by
  funext l h
  cases l with
  | nil => rfl
  | cons u r =>
    cases r with
    | cons _ _ => cases u <;> rfl
    | nil =>
      show (Option.rec _ _ (seqA h u) : Rs U) = _
      rw [seqA_eq]
      cases u with
      | tup xs => rfl
      | ref i => show Option.rec _ _ (lstU h (.ref i)) = (match lstU h (.ref i) with | some xs => (Rs.ok (U.tup xs) h : Rs U) | none => .no); cases lstU h (.ref i) <;> rfl
      | _ => rfl
/-! #### lists of ours -/
def xLs (h : List UO) (i : Nat) (k : List U → Rs U) : Rs U := Option.rec .no (fun o => UO.casesOn o k (fun _ => .no) (fun _ => .no) (fun _ _ => .no)) (getA h i)
def xT (f : EvL) : Ev := fun us h => Rs.rec (fun xs h1 => .ok (.ref (lenA h1)) (appA h1 [.lst xs])) (fun e h1 => .ex e h1) .no (f us h)
theorem xT_eq : xT = eT := by
  funext f us h
  show Rs.rec _ _ _ (f us h) = (f us h).bind _
  cases f us h with
  | ok xs h1 => show Rs.ok _ _ = _; rw [lenA_eq, appA_eq]; rfl
  | ex _ _ => rfl
  | no => rfl
def xAppM (fo : Ev) (fa : EvA) : Ev := fun us h => Rs.rec (fun u h1 => U.casesOn u (eMt kAppend fo fa us h) (fun _ => eMt kAppend fo fa us h) (fun _ => eMt kAppend fo fa us h) (fun _ => eMt kAppend fo fa us h) (fun _ => eMt kAppend fo fa us h) (fun _ => eMt kAppend fo fa us h) (fun _ => eMt kAppend fo fa us h) (fun _ => eMt kAppend fo fa us h) (fun _ _ => eMt kAppend fo fa us h)
    (fun i => xLs h1 i fun _ => Rs.rec (fun as h2 => on1 as (fun y => xLs h2 i fun xs => Bool.rec .no (.ok .non (setA h2 (.lst (appA xs [y])) i)) (szOk (Nat.succ (lenA xs)))) .no) (fun e h2 => .ex e h2) .no (fa us h1)) (fun _ => (eMt kAppend fo fa us h))) (fun e h1 => .ex e h1) .no (fo us h)
theorem xLs_eq (h : List UO) (i : Nat) (k : List U → Rs U) : xLs h i k = (match h[i]? with | some (.lst xs) => k xs | _ => .no) := by
  unfold xLs
  rw [getA_eq]
  cases h[i]? with
  | none => rfl
  | some o => cases o <;> rfl
theorem xAppM_eq : xAppM = eMt kAppend := by
  funext fo fa us h
  have z : eMt kAppend fo fa us h = (fo us h).bind fun u h1 => match lstU h1 u with | some _ => ((fa us h1).bind fun as h2 => kAppend u as h2) | none => .no := rfl
  unfold xAppM
  cases q : fo us h with
  | ex _ _ => rw [z, q]; rfl
  | no => rw [z, q]; rfl
  | ok u h1 =>
    cases u with
    | ref i =>
      rw [z, q]
      show xLs h1 i _ = (match (match h1[i]? with | some (.lst xs) => some xs | _ => none) with | some _ => ((fa us h1).bind fun as h2 => kAppend (.ref i) as h2) | none => .no)
      rw [xLs_eq]
      cases h1[i]? with
      | none => rfl
      | some o => cases o with
        | lst xs =>
          show Rs.rec _ _ _ (fa us h1) = (fa us h1).bind _
          cases fa us h1 with
          | ok as h2 =>
            show on1 as _ _ = kAppend (.ref i) as h2
            cases as with
            | nil => rfl
            | cons y r =>
              cases r with
              | cons _ _ => rfl
              | nil =>
                show xLs h2 i _ = (match h2[i]? with | some (.lst xs) => (match szOk (xs.length + 1) with | true => (Rs.ok U.non (h2.set i (.lst (xs ++ [y]))) : Rs U) | false => .no) | _ => .no)
                rw [xLs_eq]
                cases h2[i]? with
                | none => rfl
                | some o => cases o with
                  | lst xs =>
                    show (Bool.rec _ _ (szOk (Nat.succ (lenA xs))) : Rs U) = _
                    rw [lenA_eq, setA_eq, appA_eq]
                    dsimp only
                    cases szOk (xs.length + 1) <;> rfl
                  | _ => rfl
          | ex _ _ => rfl
          | no => rfl
        | _ => rfl
    | _ => rfl
def ixA (n : Nat) (i : Int) : Option Nat := Int.rec (fun a => Bool.rec none (some a) (Nat.blt a n)) (fun _ => ixN n i) i
theorem ixA_eq (n : Nat) (i : Int) : ixA n i = ixN n i := by
  cases i with
  | ofNat a =>
    show Bool.rec none (some a) (Nat.blt a n) = ixN n (a : Int)
    unfold ixN
    rw [if_pos (Int.natCast_nonneg a), blt_eq]
    by_cases q : a < n
    · rw [decide_eq_true q, if_pos (by omega)]; rfl
    · rw [decide_eq_false q, if_neg (by omega)]
  | negSucc a => rfl
def xPutK (o i v : U) (h : List UO) : Rs Unit := U.casesOn o (kPut o i v h) (fun _ => kPut o i v h) (fun _ => kPut o i v h) (fun _ => kPut o i v h) (fun _ => kPut o i v h) (fun _ => kPut o i v h) (fun _ => kPut o i v h) (fun _ => kPut o i v h) (fun _ _ => kPut o i v h)
  (fun p => U.casesOn i (kPut o i v h) (fun _ => kPut o i v h) (fun k => Option.rec .no (fun q => UO.casesOn q (fun xs => Option.rec .no (fun j => .ok () (setA h (.lst (setA xs v j)) p)) (ixA (lenA xs) k)) (fun _ => .no) (fun _ => .no) (fun _ _ => .no)) (getA h p)) (fun _ => kPut o i v h) (fun _ => kPut o i v h) (fun _ => kPut o i v h) (fun _ => kPut o i v h) (fun _ => kPut o i v h) (fun _ _ => kPut o i v h) (fun _ => kPut o i v h) (fun _ => (kPut o i v h))) (fun _ => (kPut o i v h))
theorem xPutK_eq : xPutK = kPut := by
  funext o i v h
  cases o with
  | ref p =>
    cases i with
    | int k =>
      show Option.rec _ _ (getA h p) = (match h[p]? with | some (.lst xs) => (match ixN xs.length k with | some j => (Rs.ok () (h.set p (.lst (xs.set j v))) : Rs Unit) | none => .no) | _ => .no)
      rw [getA_eq]
      cases h[p]? with
      | none => rfl
      | some q => cases q with
        | lst xs =>
          show (Option.rec _ _ (ixA (lenA xs) k) : Rs Unit) = _
          rw [ixA_eq, lenA_eq]
          dsimp only
          cases ixN xs.length k with
          | none => rfl
          | some j => show Rs.ok () (setA h (.lst (setA xs v j)) p) = _; rw [setA_eq, setA_eq]
        | _ => rfl
    | _ => rfl
  | _ => rfl
/-! #### statements -/
def xSet (i : Nat) (f : Ev) : Sv := fun us h => Rs.rec (fun u h1 => .nx (setA us (some u) i) h1) (fun e h1 => .ex e us h1) .no (f us h)
theorem xSet_eq : xSet = gSet := by
  funext i f us h
  show Rs.rec _ _ _ (f us h) = (f us h).then us _
  cases f us h with
  | ok u h1 => show Rt.nx _ _ = _; rw [setA_eq]; rfl
  | ex _ _ => rfl
  | no => rfl
def xSeq (a b : Sv) : Sv := fun us h => Rt.rec (fun us1 h1 => b us1 h1) (fun u h => .bk u h) (fun u h => .ct u h) (fun u h => .rt u h) (fun e u h => .ex e u h) .no (a us h)
theorem xSeq_eq : xSeq = gSeq := by
  funext a b us h
  show Rt.rec _ _ _ _ _ _ (a us h) = gSeq a b us h
  unfold gSeq
  cases a us h <;> rfl
def xEx (f : Ev) : Sv := fun us h => Rs.rec (fun _ h1 => .nx us h1) (fun e h1 => .ex e us h1) .no (f us h)
theorem xEx_eq : xEx = gEx := by
  funext f us h
  show Rs.rec _ _ _ (f us h) = (f us h).then us _
  cases f us h <;> rfl
def xRet (f : Ev) : Sv := fun us h => Rs.rec (fun u h1 => .rt u h1) (fun e h1 => .ex e us h1) .no (f us h)
theorem xRet_eq : xRet = gRet := by
  funext f us h
  show Rs.rec _ _ _ (f us h) = (f us h).then us _
  cases f us h <;> rfl
def xIf (c : EvB) (a b : Sv) : Sv := fun us h => Rs.rec (fun b1 h1 => Bool.rec (b us h1) (a us h1) b1) (fun e h1 => .ex e us h1) .no (c us h)
theorem xIf_eq : xIf = gIf := by
  funext c a b us h
  show Rs.rec _ _ _ (c us h) = (c us h).then us _
  cases c us h with
  | ok b1 h1 => cases b1 <;> rfl
  | ex _ _ => rfl
  | no => rfl
def xPut (fo fi fv : Ev) : Sv := fun us h => Rs.rec (fun v h1 => Rs.rec (fun o h2 => Rs.rec (fun i h3 => Rs.rec (fun _ h4 => .nx us h4) (fun e h4 => .ex e us h4) .no (xPutK o i v h3)) (fun e h1 => .ex e us h1) .no (fi us h2)) (fun e h1 => .ex e us h1) .no (fo us h1)) (fun e h1 => .ex e us h1) .no (fv us h)
theorem xPut_eq : xPut = gPut := by
  funext fo fi fv us h
  unfold xPut gPut
  rw [xPutK_eq]
  cases fv us h with
  | ok v h1 =>
    show Rs.rec _ _ _ (fo us h1) = (fo us h1).then us _
    cases fo us h1 with
    | ok o h2 =>
      show Rs.rec _ _ _ (fi us h2) = (fi us h2).then us _
      cases fi us h2 with
      | ok i h3 =>
        show Rs.rec _ _ _ (kPut o i v h3) = (kPut o i v h3).then us _
        cases kPut o i v h3 <;> rfl
      | ex _ _ => rfl
      | no => rfl
    | ex _ _ => rfl
    | no => rfl
  | ex _ _ => rfl
  | no => rfl
def xName (i : Nat) : Tgt := fun u us => some (setA us (some u) i)
theorem xName_eq : xName = aName := by
  funext i u us
  show some (setA us (some u) i) = some (us.set i (some u))
  rw [setA_eq]
def forLA (tg : Tgt) (body : Sv) (xs : List U) : Lo → List UO → Rt := List.rec (fun us h => .nx us h) (fun x _ ih us h => Option.rec .no (fun us1 => Rt.rec (fun u h => ih u h) (fun u h => .nx u h) (fun u h => ih u h) (fun u h => .rt u h) (fun e u h => .ex e u h) .no (body us1 h)) (tg x us)) xs
theorem forLA_eq (tg : Tgt) (body : Sv) : ∀ xs us h, forLA tg body xs us h = forL tg body xs us h
  | [], _, _ => rfl
  | x :: r, us, h => by
    unfold forL
    show (Option.rec _ _ (tg x us) : Rt) = _
    cases tg x us with
    | none => rfl
    | some us1 =>
      show (Rt.rec _ _ _ _ _ _ (body us1 h) : Rt) = _
      dsimp only
      cases body us1 h with
      | nx u h => exact forLA_eq tg body r u h
      | ct u h => exact forLA_eq tg body r u h
      | _ => rfl
def forDA (it : Nat → List UO → Option (Option U)) (tg : Tgt) (body : Sv) (n : Nat) : Nat → Lo → List UO → Rt := Nat.rec (fun _ _ _ => .no) (fun _ ih i us h => Option.rec .no (fun o => Option.rec (.nx us h) (fun x => Option.rec .no (fun us1 => Rt.rec (fun u h => ih (Nat.succ i) u h) (fun u h => .nx u h) (fun u h => ih (Nat.succ i) u h) (fun u h => .rt u h) (fun e u h => .ex e u h) .no (body us1 h)) (tg x us)) o) (it i h)) n
theorem forDA_eq (it : Nat → List UO → Option (Option U)) (tg : Tgt) (body : Sv) : ∀ n i us h, forDA it tg body n i us h = forD it tg body n i us h
  | 0, _, _, _ => rfl
  | n + 1, i, us, h => by
    unfold forD
    show (Option.rec _ _ (it i h) : Rt) = _
    cases it i h with
    | none => rfl
    | some o =>
      cases o with
      | none => rfl
      | some x =>
        show (Option.rec _ _ (tg x us) : Rt) = _
        dsimp only
        cases tg x us with
        | none => rfl
        | some us1 =>
          show (Rt.rec _ _ _ _ _ _ (body us1 h) : Rt) = _
          dsimp only
          cases body us1 h with
          | nx u h => exact forDA_eq it tg body n (i + 1) u h
          | ct u h => exact forDA_eq it tg body n (i + 1) u h
          | _ => rfl
def xFor (fi : EvI) (tg : Tgt) (body : Sv) : Sv := fun us h => Rs.rec (fun s h1 => Src.rec (fun xs => forLA tg body xs us h1) (fun it => forDA it tg body 100000 0 us h1) s) (fun e h1 => .ex e us h1) .no (fi us h)
theorem xFor_eq : xFor = gFor := by
  funext fi tg body us h
  show Rs.rec _ _ _ (fi us h) = (fi us h).then us _
  cases fi us h with
  | ok s h1 => cases s with
    | fix xs => exact forLA_eq tg body xs us h1
    | dyn it => exact forDA_eq it tg body 100000 0 us h1
  | ex _ _ => rfl
  | no => rfl
def bRs {α : Type} (r : Rs α) (k : α → List UO → Rs (List U)) : Rs (List U) := Rs.rec (fun a h => k a h) (fun _ _ => .no) .no r
def lcLA (tg : Tgt) (tests : EvB) (elt : Ev) (us : Lo) (xs : List U) : List UO → Rs (List U) := List.rec (fun h => .ok [] h) (fun x _ ih h => Option.rec .no (fun us1 => bRs (tests us1 h) fun b h1 => Bool.rec (ih h1) (bRs (elt us1 h1) fun y h2 => bRs (ih h2) fun ys h3 => .ok (y :: ys) h3) b) (tg x us)) xs
theorem lcLA_eq (tg : Tgt) (tests : EvB) (elt : Ev) (us : Lo) : ∀ xs h, lcLA tg tests elt us xs h = lcL tg tests elt us xs h
  | [], _ => rfl
  | x :: r, h => by
    unfold lcL
    show (Option.rec _ _ (tg x us) : Rs (List U)) = _
    cases tg x us with
    | none => rfl
    | some us1 =>
      show bRs (tests us1 h) _ = _
      unfold bRs
      dsimp only
      cases tests us1 h with
      | ok b h1 =>
        cases b with
        | false => exact lcLA_eq tg tests elt us r h1
        | true =>
          show (Rs.rec _ _ _ (elt us1 h1) : Rs (List U)) = _
          dsimp only
          cases elt us1 h1 with
          | ok y h2 =>
            show (Rs.rec _ _ _ (lcLA tg tests elt us r h2) : Rs (List U)) = _
            rw [lcLA_eq tg tests elt us r h2]
            dsimp only
            cases lcL tg tests elt us r h2 <;> rfl
          | ex _ _ => rfl
          | no => rfl
      | ex _ _ => rfl
      | no => rfl
def lcDA (it : Nat → List UO → Option (Option U)) (tg : Tgt) (tests : EvB) (elt : Ev) (us : Lo) (n : Nat) : Nat → List UO → Rs (List U) := Nat.rec (fun _ _ => .no) (fun _ ih i h => Option.rec .no (fun o => Option.rec (.ok [] h) (fun x => Option.rec .no (fun us1 => bRs (tests us1 h) fun b h1 => Bool.rec (ih (Nat.succ i) h1) (bRs (elt us1 h1) fun y h2 => bRs (ih (Nat.succ i) h2) fun ys h3 => .ok (y :: ys) h3) b) (tg x us)) o) (it i h)) n
theorem lcDA_eq (it : Nat → List UO → Option (Option U)) (tg : Tgt) (tests : EvB) (elt : Ev) (us : Lo) : ∀ n i h, lcDA it tg tests elt us n i h = lcD it tg tests elt us n i h
  | 0, _, _ => rfl
  | n + 1, i, h => by
    unfold lcD
    show (Option.rec _ _ (it i h) : Rs (List U)) = _
    cases it i h with
    | none => rfl
    | some o =>
      cases o with
      | none => rfl
      | some x =>
        show (Option.rec _ _ (tg x us) : Rs (List U)) = _
        dsimp only
        cases tg x us with
        | none => rfl
        | some us1 =>
          show bRs (tests us1 h) _ = _
          unfold bRs
          dsimp only
          cases tests us1 h with
          | ok b h1 =>
            cases b with
            | false => exact lcDA_eq it tg tests elt us n (i + 1) h1
            | true =>
              show (Rs.rec _ _ _ (elt us1 h1) : Rs (List U)) = _
              dsimp only
              cases elt us1 h1 with
              | ok y h2 =>
                show (Rs.rec _ _ _ (lcDA it tg tests elt us n (i + 1) h2) : Rs (List U)) = _
                rw [lcDA_eq it tg tests elt us n (i + 1) h2]
                dsimp only
                cases lcD it tg tests elt us n (i + 1) h2 <;> rfl
              | ex _ _ => rfl
              | no => rfl
          | ex _ _ => rfl
          | no => rfl
def wipeA (us : Lo) (vs : List Nat) : Lo := List.rec us (fun v _ ih => setA ih none v) vs
theorem wipeA_eq (us : Lo) : ∀ vs, wipeA us vs = wipeU us vs
  | [] => rfl
  | v :: vs => by
    show setA (wipeA us vs) none v = (wipeU us vs).set v none
    rw [setA_eq, wipeA_eq us vs]
def xLc (fi : EvI) (tg : Tgt) (tests : EvB) (elt : Ev) (vs : List Nat) : EvL := fun us h => Rs.rec (fun s h1 => bRs (Src.rec (fun xs => lcLA tg tests elt (wipeA us vs) xs h1) (fun it => lcDA it tg tests elt (wipeA us vs) 100000 0 h1) s) fun ys h2 => Bool.rec .no (.ok ys h2) (Nat.blt (lenA ys) 16777216)) (fun e h1 => .ex e h1) .no (fi us h)
theorem xLc_eq : xLc = eLc := by
  funext fi tg tests elt vs us h
  show Rs.rec _ _ _ (fi us h) = (fi us h).bind _
  cases fi us h with
  | ok s h1 =>
    show bRs _ _ = (match lcS tg tests elt (wipeU us vs) s h1 with | .ok ys h2 => (match Nat.blt ys.length 16777216 with | true => .ok ys h2 | false => .no) | _ => .no)
    have e : (Src.rec (fun xs => lcLA tg tests elt (wipeA us vs) xs h1) (fun it => lcDA it tg tests elt (wipeA us vs) 100000 0 h1) s : Rs (List U)) = lcS tg tests elt (wipeU us vs) s h1 := by
      rw [wipeA_eq]
      cases s with
      | fix xs => exact lcLA_eq tg tests elt _ xs h1
      | dyn it => exact lcDA_eq it tg tests elt _ 100000 0 h1
    rw [e]
    unfold bRs
    cases lcS tg tests elt (wipeU us vs) s h1 with
    | ok ys h2 =>
      show (Bool.rec _ _ (Nat.blt (lenA ys) 16777216) : Rs (List U)) = _
      rw [lenA_eq]
      dsimp only
      cases Nat.blt ys.length 16777216 <;> rfl
    | ex _ _ => rfl
    | no => rfl
  | ex _ _ => rfl
  | no => rfl
def xr1 (f : Ev) : EvI := fun us h => Rs.rec (fun u h1 => U.casesOn u .no (fun _ => .no) (fun n => Bool.rec .no (.ok (.fix (rgUA 0 n)) h1) (rgOk 0 n)) (fun _ => .no) (fun _ => .no) (fun _ => .no) (fun _ => .no) (fun _ => .no) (fun _ _ => .no) (fun _ => .no) (fun _ => .no)) (fun e h1 => .ex e h1) .no (f us h)
theorem xr1_eq : xr1 = ir1 := by
  funext f us h
  show Rs.rec _ _ _ (f us h) = (f us h).bind _
  cases f us h with
  | ok u h1 => cases u with
    | int n =>
      show (Bool.rec _ _ (rgOk 0 n) : Rs Src) = (match rgOk 0 n with | true => .ok (.fix (rgU 0 n)) h1 | false => .no)
      rw [rgUA_eq]
      cases rgOk 0 n <;> rfl
    | _ => rfl
  | ex _ _ => rfl
  | no => rfl
/-! #### tests -/
def xB (f : Ev) : EvB := fun us h => Rs.rec (fun u h1 => U.casesOn u .no (fun c => .ok c h1) (fun _ => .no) (fun _ => .no) (fun _ => .no) (fun _ => .no) (fun _ => .no) (fun _ => .no) (fun _ _ => .no) (fun _ => .no) (fun _ => .no)) (fun e h1 => .ex e h1) .no (f us h)
theorem xB_eq : xB = bE := by
  funext f us h
  show Rs.rec _ _ _ (f us h) = (f us h).bind _
  cases f us h with
  | ok u h1 => cases u <;> rfl
  | ex _ _ => rfl
  | no => rfl
def xAnd (f g : EvB) : EvB := fun us h => Rs.rec (fun c h1 => Bool.rec (.ok false h1) (g us h1) c) (fun e h1 => .ex e h1) .no (f us h)
def xOr (f g : EvB) : EvB := fun us h => Rs.rec (fun c h1 => Bool.rec (g us h1) (.ok true h1) c) (fun e h1 => .ex e h1) .no (f us h)
def xNot (f : EvB) : EvB := fun us h => Rs.rec (fun c h1 => .ok (Bool.rec true false c) h1) (fun e h1 => .ex e h1) .no (f us h)
theorem xAnd_eq : xAnd = bAnd := by
  funext f g us h
  show Rs.rec _ _ _ (f us h) = (f us h).bind _
  cases f us h with
  | ok c h1 => cases c <;> rfl
  | ex _ _ => rfl
  | no => rfl
theorem xOr_eq : xOr = bOr := by
  funext f g us h
  show Rs.rec _ _ _ (f us h) = (f us h).bind _
  cases f us h with
  | ok c h1 => cases c <;> rfl
  | ex _ _ => rfl
  | no => rfl
theorem xNot_eq : xNot = bNot := by
  funext f us h
  show Rs.rec _ _ _ (f us h) = (f us h).bind _
  cases f us h with
  | ok c h1 => cases c <;> rfl
  | ex _ _ => rfl
  | no => rfl
/-! #### calls of defs -/
def frzA (n : Nat) (h : List UO) : U → Option U := Nat.rec (fun _ => none) (fun _ ih u => U.casesOn u (some u) (fun _ => some u) (fun _ => some u) (fun _ => some u) (fun _ => some u)
  (fun xs => Option.rec none (fun ys => some (.tup ys)) (omapA ih xs)) (fun xs => Option.rec none (fun ys => some (.fl ys)) (omapA ih xs)) (fun _ => some u) (fun c xs => Option.rec none (fun ys => some (.ob c ys)) (omapA ih xs))
  (fun i => Option.rec none (fun o => UO.casesOn o (fun xs => Option.rec none (fun ys => some (.fl ys)) (omapA ih xs)) (fun _ => none) (fun _ => none) (fun _ _ => none)) (getA h i)) (fun xs => Option.rec none (fun ys => some (.tx ys)) (omapA ih xs))) n
theorem frzA_eq (h : List UO) : ∀ n, frzA n h = frz n h
  | 0 => by funext u; unfold frz; rfl
  | n + 1 => by
    funext u
    have ih := frzA_eq h n
    have e : frzA (n + 1) h u = U.casesOn u (some u) (fun _ => some u) (fun _ => some u) (fun _ => some u) (fun _ => some u)
      (fun xs => Option.rec none (fun ys => some (.tup ys)) (omapA (frzA n h) xs)) (fun xs => Option.rec none (fun ys => some (.fl ys)) (omapA (frzA n h) xs)) (fun _ => some u) (fun c xs => Option.rec none (fun ys => some (.ob c ys)) (omapA (frzA n h) xs))
      (fun i => Option.rec none (fun o => UO.casesOn o (fun xs => Option.rec none (fun ys => some (.fl ys)) (omapA (frzA n h) xs)) (fun _ => none) (fun _ => none) (fun _ _ => none)) (getA h i)) (fun xs => Option.rec none (fun ys => some (.tx ys)) (omapA (frzA n h) xs)) := rfl
    rw [e, ih]
    unfold frz
    cases u with
    | tup xs => dsimp only; rw [omapA_eq]; cases mapO (frz n h) xs <;> rfl
    | fl xs => dsimp only; rw [omapA_eq]; cases mapO (frz n h) xs <;> rfl
    | ob c xs => dsimp only; rw [omapA_eq]; cases mapO (frz n h) xs <;> rfl
    | tx xs => dsimp only; rw [omapA_eq]; cases mapO (frz n h) xs <;> rfl
    | ref i =>
      dsimp only
      rw [getA_eq]
      cases h[i]? with
      | none => rfl
      | some o => cases o with
        | lst xs => dsimp only; rw [omapA_eq]; cases mapO (frz n h) xs <;> rfl
        | _ => rfl
    | _ => rfl
def pureA (n : Nat) : U → Bool := Nat.rec (fun _ => false) (fun _ ih u => U.casesOn u true (fun _ => true) (fun _ => true) (fun _ => true) (fun _ => true) (fun xs => allA ih xs) (fun xs => allA ih xs) (fun _ => true) (fun _ xs => allA ih xs) (fun _ => false) (fun xs => allA ih xs)) n
theorem pureA_eq : ∀ n, pureA n = pureU n
  | 0 => by funext u; unfold pureU; rfl
  | n + 1 => by
    funext u
    have ih := pureA_eq n
    have e : pureA (n + 1) u = U.casesOn u true (fun _ => true) (fun _ => true) (fun _ => true) (fun _ => true) (fun xs => allA (pureA n) xs) (fun xs => allA (pureA n) xs) (fun _ => true) (fun _ xs => allA (pureA n) xs) (fun _ => false) (fun xs => allA (pureA n) xs) := rfl
    rw [e, ih]
    unfold pureU
    cases u with
    | tup xs => exact allA_eq _ _
    | fl xs => exact allA_eq _ _
    | ob c xs => exact allA_eq _ _
    | tx xs => exact allA_eq _ _
    | _ => rfl
def finA (r : Rt) : Rg := Rt.rec (fun _ _ => .ok .non) (fun _ _ => .no) (fun _ _ => .no) (fun u h => Option.rec .no (fun u' => .ok u') (frzA 8 h u)) (fun e us h => fin (.ex e us h)) .no r
theorem finA_eq : finA = fin := by
  funext r
  cases r with
  | rt u h =>
    show Option.rec _ _ (frzA 8 h u) = (match frz 8 h u with | some u' => Rg.ok u' | none => .no)
    rw [frzA_eq]
    cases frz 8 h u <;> rfl
  | _ => rfl
def startA (n : Nat) (us : List U) : Lo := List.rec (fun n => Nat.rec [] (fun _ ih => none :: ih) n) (fun u _ ih n => some u :: ih (Nat.pred n)) us n
theorem repl_A : ∀ n : Nat, (Nat.rec [] (fun _ ih => none :: ih) n : Lo) = List.replicate n none
  | 0 => rfl
  | n + 1 => by
    show none :: _ = _
    rw [repl_A n]
    rfl
theorem startA_eq : ∀ (us : List U) (n : Nat), startA n us = startU n us
  | [], n => by
    show (Nat.rec [] (fun _ ih => none :: ih) n : Lo) = _
    rw [repl_A]
    rfl
  | u :: r, n => by
    show some u :: startA (Nat.pred n) r = _
    rw [startA_eq r]
    unfold startU
    rw [List.length_cons, List.map_cons, List.cons_append]
    congr 3
    rw [Nat.pred_eq_sub_one]
    omega
def xrunG (n : Nat) (body : Sv) : Fg := fun us => finA (body (startA n us) [])
theorem xrunG_eq : xrunG = runG := by
  funext n body us
  show finA (body (startA n us) []) = fin (body (startU n us) [])
  rw [finA_eq, startA_eq]
def xrunH (n : Nat) (body : Sv) : Fh := fun us h => finH (body (startA n us) h)
theorem xrunH_eq : xrunH = runH := by
  funext n body us h
  show finH (body (startA n us) h) = finH (body (startU n us) h)
  rw [startA_eq]
def xCallG (n : Nat) (f : Fg) (fa : EvA) : Ev := fun us h => Rs.rec (fun as h1 => Bool.rec .no (Rg.rec (fun u => .ok u h1) (fun e => .ex e h1) .no (f as)) (allA (pureA 10) as && Nat.beq (lenA as) n)) (fun e h1 => .ex e h1) .no (fa us h)
theorem xCallG_eq : xCallG = eCallG := by
  funext n f fa us h
  show Rs.rec _ _ _ (fa us h) = (fa us h).bind _
  cases fa us h with
  | ok as h1 =>
    show Bool.rec _ _ (allA (pureA 10) as && Nat.beq (lenA as) n) = (match as.length == n && as.all (pureU 10) with | true => (match f as with | .ok u => (Rs.ok u h1 : Rs U) | .ex e => .ex e h1 | .no => .no) | false => .no)
    rw [allA_eq, lenA_eq, pureA_eq, Bool.and_comm]
    rw [show Nat.beq as.length n = (as.length == n) from beqA as.length n]
    cases (as.length == n && as.all (pureU 10)) with
    | false => rfl
    | true => show (Rg.rec _ _ _ (f as) : Rs U) = _; cases f as <;> rfl
  | ex _ _ => rfl
  | no => rfl
def xCallH (n : Nat) (f : Fh) (fa : EvA) : Ev := fun us h => Rs.rec (fun as h1 => Bool.rec .no (f as h1) (Nat.beq (lenA as) n)) (fun e h1 => .ex e h1) .no (fa us h)
theorem xCallH_eq : xCallH = eCallH := by
  funext n f fa us h
  show Rs.rec _ _ _ (fa us h) = (fa us h).bind _
  cases fa us h with
  | ok as h1 =>
    show Bool.rec _ _ (Nat.beq (lenA as) n) = (match as.length == n with | true => f as h1 | false => .no)
    rw [lenA_eq]
    rw [show Nat.beq as.length n = (as.length == n) from beqA as.length n]
    cases (as.length == n) <;> rfl
  | ex _ _ => rfl
  | no => rfl
end
end Fn
/-! own exceptions: raise, try; the law's top -/
namespace Fn
open PySem L2 PySem.Spec PyProof.Rows
/-- what the law's end asks -/
def topSp (K : PySem.W.Frag) : Sp := fun vs H Q _ => ∃ (a : Addr) (ns : List Int), vs = [.ref a] ∧ Only H ∧ SqL K H a (ns.map V.int) ∧ ns.length ≤ 63 ∧ ∀ H', Q (.bl true) H'
theorem at_topG {K : PySem.W.Frag} {G : Cfg} (hG : G.K = K) {H : Hp} {a : Addr} {ns : List Int} {F : Fg} {Q : VK} {E : XK} (hO : Only H) (hS : SqL K H a (ns.map V.int)) (h : F [.scr ns] = .ok (.bl true)) (hq : ∀ H', Q (.bl true) H') :
    fnG G 1 F [.ref a] H Q E := by
  have r : ∀ w : Wd, w.H = H → R G w (.scr ns) (.ref a) := by
    rintro w rfl
    rcases hS with (h1 | h1) | h1
    · rcases hO a with h2 | ⟨o, xs, h2⟩
      · rw [h2] at h1; cases h1
      · rw [h2] at h1; cases h1
    · exact .scr (.inl h1)
    · exact .scr (.inr fun H' => .inr (hG ▸ h1))
  refine ⟨rfl, [.scr ns], ⟨fun _ => False, [], [], H⟩, rfl, rfl, rfl, ⟨rfl, .nil, (fun a h => nomatch h), (fun a h => h.elim), (fun i a o h _ => by simp at h)⟩, .cons (r _ rfl) .nil, ?_⟩
  rw [h]
  intro w' v _ _ _ _ _ r
  cases r
  exact hq _
theorem ok_top {P : Program} {w : World} {K : PySem.W.Frag} {mg : Str → Option Value} {base : Heap} {CX : CXT} {k : Nat} {f : Addr} {fd : FuncData} {ps : List Str} {G : Cfg} {F : Fg} (hG : G.K = K) (h : ∀ ns, F [.scr ns] = .ok (.bl true))
    (o : FnOk P w K mg base CX k f fd ps (fnG G 1 F)) : FnOk P w K mg base CX k f fd ps (topSp K) :=
  o.imp fun vs H Q E ⟨a, ns, e, hO, hS, hl, hq⟩ => by
    subst e
    exact at_topG hG hO hS (h ns) hq
/-! ### classes -/
abbrev veB : List Value := [.type "ValueError", .type "Exception", .type "BaseException", .type "object"]
structure XcC (K : PySem.W.Frag) (mg : Str → Option Value) (x : Str) (C : Addr) : Prop where
  gP : mg x = some (.ref C)
  kP : PySem.W.keepIn K (.ref C) = true
  bP : PySem.W.subIn K (.ref C) (.type "BaseException") = some true
  tP : PySem.W.typeIn K (.ref C) = some (.type "type")
  iP : PySem.W.isClsIn K C = true
theorem kit_of {K : PySem.W.Frag} {mg : Str → Option Value} {x : Str} {C : Addr} {t : Value} {b : Bool} (F : XcC K mg x C) (h : PySem.W.subIn K t (.ref C) = some b) : PySem.W.kitCls K t (.ref C) = some b := by
  have h2 : (PySem.W.clsIn K C).isSome = true := F.iP
  have e2 : ((PySem.W.clsIn K C).isSome && PySem.W.typeIn K (.ref C) == some (.type "type")) = true := by
    rw [h2, F.tP] <;> rfl
  show (if ((PySem.W.clsIn K C).isSome && PySem.W.typeIn K (.ref C) == some (.type "type")) = true then PySem.W.subIn K t (.ref C) else none) = some b
  rw [if_pos e2]
  exact h
theorem kit1_of {K : PySem.W.Frag} {mg : Str → Option Value} {x : Str} {C D : Addr} {b : Bool} (F : XcC K mg x C) (h : PySem.W.subIn K (.ref D) (.ref C) = some b) (hs : PySem.W.subIn K (.ref D) (.ref D) = some true) : PySem.W.kitOne K (.ref D) (.ref C) = some b := by
  unfold PySem.W.kitOne
  split
  · rename_i q
    have e : D = C := by
      have := eq_of_beq q
      injection this
    subst e
    exact hs.symm.trans h
  · exact kit_of F h
theorem exm_of2 {K : PySem.W.Frag} {mg : Str → Option Value} {x : Str} {C : Addr} {t : Value} {b : Bool} (F : XcC K mg x C) (h : PySem.W.subIn K t (.ref C) = some b) : PySem.W.exmOne K t (.ref C) = some b := by
  have e1 : (PySem.W.subIn K (.ref C) (.type "BaseException") == some true) = true := by rw [F.bP] <;> rfl
  unfold PySem.W.exmOne
  rw [if_pos e1]
  exact kit_of F h
/-! ### raise -/
def gRaise (c : Nat) : Sv := fun us h => .ex ⟨c, []⟩ us h
theorem s_raise {X : Cx} {G : Cfg} {W : WX} {x m : Str} {c j : Nat} {p p2 pos pos' : Pos} (hc : X.calm = true) (tk : Takes X W) (F : XcC X.K X.mg x (G.cl c)) (q : PySem.W.excIn X.K (G.cl c) veB "ValueError.__new__" = true) (hg : Gl X x) (hdb : (x == ("__debug__" : Str)) = false := by decide) :
    PS X (.Raise (some (.Call (.Name x p) [.Constant (.str m) j p2] [] pos)) none pos') (tS G (gRaise c) W) :=
  PS.imp (ps_raise hc tk (pmk_own PySem.F.excBase_ValueError q F.gP F.kP (raises_own F.bP F.tP) hg hdb)) fun D σ _ ⟨us, w, e, m, sl, h⟩ => by
    subst e
    exact h w σ _ none rfl (Ext.refl w) m sl ⟨rfl, rfl⟩
/-! ### try: .. except C as e: return .. -/
/-- new tuples that nobody holds -/
inductive NewT : Hp → Hp → Prop
  | refl (H : Hp) : NewT H H
  | step {H H' : Hp} {p : Addr} {vs : List V} : NewT H H' → H' p = none → NewT H (upd H' p (.tup vs))
theorem NewT.trans {H H1 H2 : Hp} (a : NewT H H1) (b : NewT H1 H2) : NewT H H2 := by
  induction b with
  | refl => exact a
  | step _ h ih => exact .step ih h
theorem NewT.wd {G : Cfg} {w : Wd} {H' : Hp} (h : NewT w.H H') (m : Sm G w) : ∃ w' : Wd, w'.H = H' ∧ w'.h = w.h ∧ Ext w w' ∧ Sm G w' := by
  induction h with
  | refl => exact ⟨w, rfl, rfl, Ext.refl w, m⟩
  | @step H1 p vs _ hp ih =>
    obtain ⟨w1, rfl, h1, e1, m1⟩ := ih
    exact ⟨w1.new p (.tup vs), rfl, h1, e1.trans (Ext.new hp), m1.new hp⟩
def gTryR (i : Nat) (catches ret : Nat → Option Bool) (body : Sv) : Sv := fun us h => match body us h with
  | .ex e us1 h1 => (match catches e.c with
    | some true => (match ret e.c, e.fs, Nat.blt i us1.length with | some b, [], true => .rt (.bl b) h1 | _, _, _ => .no)
    | some false => .ex e us1 h1
    | none => .no)
  | r => r
theorem s_tryR {X : Cx} {G : Cfg} {W : WX} {x n : Str} {c : Value} {i : Nat} {body : List Stmt} {e : Expr} {np pos pos' rp : Pos} {catches ret : Nat → Option Bool} {gb : Sv}
    (hs : X.stack = X.env :: X.outer) (hf : X.env.frame = some X.env.locals) (hN : X.N.Nodup) (hi : X.N[i]? = some n) (hln : X.env.kindOf n = some .local) (hc : Names X x c) (tk : Takes X W)
    (hcat : ∀ k b, catches k = some b → PySem.W.exmOne X.K (.ref (G.cl k)) c = some b)
    (hb : ∀ (W' : WX) (pn : List (Addr × Obj)) (xe : Value → Shared → Prop), Takes (X.tr pn xe) W' → PassesOwn (model X.prog X.w) X.A X.env xe → PSs (X.tr pn xe) body (tS G gb W'))
    (hsu : ∀ (k : Nat) (b : Bool) (a : Addr) (oe : Obj) (pn : List (Addr × Obj)), ret k = some b → Zc (.ref (G.cl k)) none oe → (∃ vs, oe.data = .fields vs) → PE (X.suite a ((a, oe) :: pn)) e (fun σ H Q => σ[i]? = some (some (.ref a)) ∧ ∀ H', NewT H H' → Q (.bl b) H')) :
    PS X (.Try body [.ExceptHandler (some (.Name x np)) (some n) [.Return (some e) rp] pos'] [] [] pos) (tS G (gTryR i catches ret gb) W) :=
  PS.imp (ps_try_as (tb := fun W' => tS G gb W') (ts := fun a cls d D σ H => ∃ k b, cls = .ref (G.cl k) ∧ d = none ∧ ret k = some b ∧ σ[i]? = some (some (.ref a)) ∧ ∀ H', NewT H H' → D.rt (.bl b) H') (Wout := W) hs hf hN hi hln hc tk hb fun a oe cls d pn hz hfl => ⟨fun pins s σ H D I h => by
    obtain ⟨k, b, rfl, rfl, hr, hp, q⟩ := h
    exact (pss_one (ps_ret (hsu k b a oe pn hr hz hfl))).run pins s σ H D I ⟨hp, q⟩⟩) fun D σ _ ⟨us, w, e0, m, sl, h⟩ => by
    subst e0
    refine ⟨us, w, rfl, m, sl, ?_⟩
    unfold gTryR at h
    cases hq : gb us w.h with
    | nx _ _ => rw [hq] at h; exact h
    | bk _ _ => rw [hq] at h; exact h
    | ct _ _ => rw [hq] at h; exact h
    | rt _ _ => rw [hq] at h; exact h
    | no => rw [hq] at h; exact h
    | ex x1 us1 h1 =>
      rw [hq] at h
      dsimp only at h
      intro w' σ' cls d a e1 m1 sl1 rx
      subst a
      obtain ⟨xc, fs⟩ := x1
      split at h
      · rename_i hcs
        split at h
        · rename_i b h2 h3 h4
          dsimp only at h3
          subst h3
          obtain ⟨rfl, hd⟩ := rx
          have hd : d = none := hd
          subst hd
          have hl : i < σ'.length := by rw [← sl1.1]; exact Nat.le_of_ble_eq_true h4
          refine ⟨true, hcat _ _ hcs, fun _ a ha => ⟨xc, b, rfl, rfl, h2, List.getElem?_set_self hl, fun H' hN => let ⟨w'', x1, x2, x3, x4⟩ := hN.wd m1; x1 ▸ h w'' _ x2 (e1.trans x3) x4 (.bl b)⟩, (fun z => nomatch z)⟩
        · exact h.elim
      · rename_i hcs
        exact ⟨false, by rw [rx.1]; exact hcat _ _ hcs, (fun z => nomatch z), fun _ => h w' σ' cls d rfl e1 m1 sl1 rx⟩
      · exact h.elim
section
variable {X : Cx} {i : Nat} {a D : Addr} {oe : Obj} {pn : List (Addr × Obj)} {pos p : Pos} {e f : Expr} {b b' : Bool}
/-- the suite's value is known -/
def tP (i : Nat) (a : Addr) (b : Bool) : TE := fun σ H Q => σ[i]? = some (some (.ref a)) ∧ ∀ H', NewT H H' → Q (.bl b) H'
theorem p_one {op} (h : PE X e (tP i a b)) : PE X (.BoolOp op [e] pos) (tP i a b) := pe_one h
theorem p_and {rest : List Expr} {b'' : Bool} (eb : (b && b') = b'') (h : PE X e (tP i a b)) (h' : PE X (.BoolOp .And (f :: rest) pos) (tP i a b')) : PE X (.BoolOp .And (e :: f :: rest) pos) (tP i a b'') :=
  eb ▸ PE.imp (pe_and h h') fun σ _ Q ⟨hp, q⟩ => ⟨hp, fun H' hN => ⟨b, rfl, by
    cases b with
    | true => exact ⟨hp, fun H'' hN' => q H'' (hN.trans hN')⟩
    | false => exact q H' hN⟩⟩
theorem p_or {rest : List Expr} {b'' : Bool} (eb : (b || b') = b'') (h : PE X e (tP i a b)) (h' : PE X (.BoolOp .Or (f :: rest) pos) (tP i a b')) : PE X (.BoolOp .Or (e :: f :: rest) pos) (tP i a b'') :=
  eb ▸ PE.imp (pe_or h h') fun σ _ Q ⟨hp, q⟩ => ⟨hp, fun H' hN => ⟨b, rfl, by
    cases b with
    | false => exact ⟨hp, fun H'' hN' => q H'' (hN.trans hN')⟩
    | true => exact q H' hN⟩⟩
theorem p_not {b'' : Bool} (eb : (!b) = b'') (h : PE X e (tP i a b)) : PE X (.UnaryOp .Not e pos) (tP i a b'') :=
  eb ▸ PE.imp (pe_not h) fun σ _ Q ⟨hp, q⟩ => ⟨hp, fun H' hN => ⟨b, rfl, q H' hN⟩⟩
theorem p_isi {n x : Str} {C : Addr} {p1 p2 : Pos} (E : ExcC X.K D) (hz : Zc (.ref D) none oe) (hf : ∃ vs, oe.data = .fields vs) (F : XcC X.K X.mg x C) (hk : PySem.W.kitOne X.K (.ref D) (.ref C) = some b)
    (hg : Gl X "isinstance") (hm : X.mg "isinstance" = none) (hgT : Gl X x) (hN : X.N[i]? = some n) (hv : Vis X.env.scope n) (hd : (n == ("__debug__" : Str)) = false := by decide) (hdx : (x == ("__debug__" : Str)) = false := by decide) (hcd : (n == ("__classdict__" : Str)) = false := by decide)
    (na : starEach [.Name n p1, .Name x p2] X.env = (false, eval (.Name n p1) X.env) :: starEach [.Name x p2] X.env := by rfl) (nb : starEach [.Name x p2] X.env = (false, eval (.Name x p2) X.env) :: starEach [] X.env := by rfl) (hpl : (backTo pos (starEach [.Name x p2] X.env)).any (·.1) = false := by rfl) :
    PE (X.suite a ((a, oe) :: pn)) (.Call (.Name "isinstance" p) [.Name n p1, .Name x p2] [] pos) (tP i a b) :=
  PE.imp (pe_callB (X := X.suite a ((a, oe) :: pn)) (call_isE E hz hf) hg hm (by decide +kernel) (pa_cons (pe_var (i := i) hN hv hd hcd) (pa_cons (pe_glob (v := .ref C) hgT F.gP rfl hdx) pa_nil nb) na) (he := na) (hpl := hpl)) fun σ H Q ⟨hp, q⟩ => by
    exact ⟨.ref a, hp, V.ref C, Value.ref C, b, rfl, (fun u r => by cases r; rfl), hk, q H (.refl H)⟩
/-- isinstance(e, (c1, c2, ..)), e the exception that the suite holds -/
def rIsET (K : PySem.W.Frag) (D a : Addr) : List V → Hp → VK → Prop := fun xs H Q => ∃ (tp : Addr) (cs : List V) (us : List Value) (b : Bool), xs = [.ref a, .ref tp] ∧ H tp = some (.tup cs) ∧ Paired ClsV cs us ∧ PySem.W.kitAny K (.ref D) us = some b ∧ Q (.bl b) H
theorem call_isET {X : Cx} {a D : Addr} {oe : Obj} {pn : List (Addr × Obj)} (C : ExcC X.K D) (hz : Zc (.ref D) none oe) (hf : ∃ vs, oe.data = .fields vs) : CallR (X.suite a ((a, oe) :: pn)) (.builtin "isinstance") (rIsET X.K D a) := by
  intro pins s σ H xs us Q I r h
  obtain ⟨tp, cs, ws, b, rfl, hT, k, e, q⟩ := h
  obtain ⟨u1, u2, rfl, r1, r2⟩ := vals2 r
  cases (show u2 = Value.ref tp from r2)
  cases (show u1 = Value.ref a from r1)
  obtain ⟨hget, _⟩ := I.pin (a, oe) (List.mem_append.mpr (.inl List.mem_cons_self))
  obtain ⟨vs, hv⟩ := hf
  have J : PySem.W.InstAt s.heap a oe D none := by
    obtain ⟨oc, od, oda, osl⟩ := oe
    obtain ⟨h1, h2⟩ := hz
    dsimp only at h1 h2 hv
    subst h1 h2 hv
    exact ⟨hget, rfl, rfl, trivial⟩
  obtain ⟨_, its, rv, o, h1, h2, n, h3⟩ := (show ObjOk X.prog X.w H s.heap tp (.tup cs) from I.hok tp _ hT)
  have e3 := ClsV.all k rv
  subst e3
  obtain ⟨oc, od, dt, sl⟩ := o
  simp only at h2 h3
  subst h2 h3
  exact PySem.W.kia_tup (PySem.W.handS_kitx_exc C.hg C.hk C.hs C.hd C.ha C.hn C.ht C.hm) I.kIn J h1 e (fun z => nomatch z) fun tk => ⟨.bl b, H, I.kept (t' := tk) fun _ _ z => z, rfl, q⟩
/-- the classes of a display, by their names -/
def tCls (cs : List V) : TA := fun _ H Q => Q cs H
theorem cl_nil {Y : Cx} : PA Y [] (tCls []) := PA.imp pa_nil fun _ _ _ h => h
theorem cl_cons {Y : Cx} {x : Str} {C : Addr} {p2 : Pos} {es : List Expr} {cs : List V} (hgT : Gl Y x) (hg : Y.mg x = some (.ref C)) (h : PA Y es (tCls cs)) (hs : starEach (.Name x p2 :: es) Y.env = (false, eval (.Name x p2) Y.env) :: starEach es Y.env := by rfl) (hdx : (x == ("__debug__" : Str)) = false := by decide) : PA Y (.Name x p2 :: es) (tCls (.ref C :: cs)) :=
  PA.imp (pa_cons (pe_glob (v := .ref C) hgT hg rfl hdx) h hs) fun _ _ _ q => q
theorem p_isiT {n : Str} {cs : List V} {us : List Value} {ts : List Expr} {x1 : Pos} {p1 : Pos} (E : ExcC X.K D) (hz : Zc (.ref D) none oe) (hf : ∃ vs, oe.data = .fields vs) (hcs : PA (X.suite a ((a, oe) :: pn)) ts (tCls cs)) (hsz : cs.length ≤ sizeLine) (hp : Paired ClsV cs us) (hk : PySem.W.kitAny X.K (.ref D) us = some b)
    (hg : Gl X "isinstance") (hm : X.mg "isinstance" = none) (hN : X.N[i]? = some n) (hv : Vis X.env.scope n) (hd : (n == ("__debug__" : Str)) = false := by decide) (hcd : (n == ("__classdict__" : Str)) = false := by decide)
    (na : starEach [.Name n p1, .Tuple ts x0 x1] X.env = (false, eval (.Name n p1) X.env) :: starEach [.Tuple ts x0 x1] X.env := by rfl) (nb : starEach [.Tuple ts x0 x1] X.env = (false, eval (.Tuple ts x0 x1) X.env) :: starEach [] X.env := by rfl) (hpl : (backTo pos (starEach [.Tuple ts x0 x1] X.env)).any (·.1) = false := by rfl) :
    PE (X.suite a ((a, oe) :: pn)) (.Call (.Name "isinstance" p) [.Name n p1, .Tuple ts x0 x1] [] pos) (tP i a b) :=
  PE.imp (pe_callB (X := X.suite a ((a, oe) :: pn)) (call_isET E hz hf) hg hm (by decide +kernel) (pa_cons (pe_var (i := i) hN hv hd hcd) (pa_cons (pe_tup hcs) pa_nil nb) na) (he := na) (hpl := hpl)) fun σ H Q ⟨hp2, q⟩ => by
    exact ⟨.ref a, hp2, hsz, fun tp htp => ⟨tp, cs, us, b, rfl, upd_same, hp, hk, q _ (.step (.refl H) htp)⟩⟩
end
/-! ### tuple(range(a, b, -1)) -/
section
variable {X : Cx} {a b c : Expr} {ta : TA} {p p2 pos pos2 : Pos}
def rgVC (i k : Int) (n : Nat) : List V := (List.range n).map fun m => V.int (i + (m : Nat) * k)
theorem vals_rgC {i k : Int} {n : Nat} {acc : Array Value} (h : ItemsOf (fun m v => ∃ t, v = .int (i + m * k) t) acc n) : Vals (rgVC i k n) acc.toList := by
  have e : acc.toList.length = n := by rw [Array.length_toList]; exact h.1
  unfold rgVC
  rw [← e]
  refine vals_of_get acc.toList _ fun j u hj => ?_
  obtain ⟨t, rfl⟩ := h.2 j u (by rw [← hj, Array.getElem?_toList])
  exact ⟨t, rfl⟩
theorem pe_tupRg3 (hc : X.calm = true) (hg : Gl X "tuple") (hm : X.mg "tuple" = none) (hgr : Gl X "range") (hmr : X.mg "range" = none) (ha : PA X [a, b, c] ta)
    (na : starEach [.Call (.Name "range" p2) [a, b, c] [] pos2] X.env = (false, eval (.Call (.Name "range" p2) [a, b, c] [] pos2) X.env) :: starEach [] X.env := by rfl)
    (hs : starEach [a, b, c] X.env = (false, eval a X.env) :: starEach [b, c] X.env := by rfl) (hpl : (backTo pos2 (starEach [b, c] X.env)).any (·.1) = false := by rfl) :
    PE X (.Call (.Name "tuple" p) [.Call (.Name "range" p2) [a, b, c] [] pos2] [] pos) (fun σ H Q => ta σ H fun vs H1 => ∃ (i j k : Int) (n : Nat), vs = [.int i, .int j, .int k] ∧ RgC i j k n ∧ n ≤ 2 ^ 24 ∧ ∀ q, H1 q = none → Q (.ref q) (upd H1 q (.tup (rgVC i k n)))) := by
  refine ⟨fun pins s σ H Q I h => ?_⟩
  refine Call_ (ld_blt I hg hm boot_tuple (PyProof.Rows.callWith_type1 (args_cons ?_ na) na))
  refine Call_ (ld_blt I hgr hmr boot_range (PyProof.Rows.callWith_type1 (thn (ha.run pos2 pins s σ H _ I h) fun us s1 ⟨vs, H1, I1, r1, q1⟩ => ?_) hs hpl))
  obtain ⟨i, j, k, n, e, ⟨c0, c1, c2, c3⟩, hn, q⟩ := q1
  subst e
  cases r1 with
  | cons r rr =>
    cases rr with
    | cons r' rr =>
      cases rr with
      | cons r'' rr =>
        cases rr
        obtain ⟨t, rfl⟩ := r
        obtain ⟨t', rfl⟩ := r'
        obtain ⟨t'', rfl⟩ := r''
        refine call_range_3 c0 ?_ (.inl (PyProof.noPylong_small c1))
        refine args_nil ?_
        have I2 : Inv X pins σ H1 { s1 with heap := s1.heap.push { cls := .type "range", data := .fields #[.int i t, .int j t', .int k t''] } } := I1.kept (t' := s1.toks) fun b o e => Heap.get?_push_of_some _ e
        refine call_tuple_range (n := n) (I2.ok.hd hc) (IsRange.new ..) c2 c3 hn fun h' tk acc hk hi => ?_
        have I3 : Inv X pins σ H1 { s1 with heap := h', toks := tk } := I1.kept fun b o e => hk b o (Heap.get?_push_of_some _ e)
        refine ⟨.ref h'.objs.size, upd H1 h'.objs.size (.tup (rgVC i k n)), I3.laid (t' := tk) (fun c o e => Heap.get?_push_of_some _ e) (Nat.le_refl _) (show ObjOk X.prog X.w _ _ _ (.tup (rgVC i k n)) from ⟨?_, acc.toList, vals_rgC hi, ?_⟩), rfl, q _ (I3.hok.fresh (Nat.le_refl _))⟩
        · unfold rgVC; rw [List.length_map, List.length_range, sizeLine_eq]; omega
        · rw [Array.toArray_toList]; exact IsTup.new _ _
end
def eTRg3 (fa : EvA) : Ev := fun us h => (fa us h).bind fun xs h1 => match xs with
  | [.int a, .int b, .int c] => (match (c == -1) && rgOk b a with | true => .ok (.tup (downU a b)) h1 | false => .no)
  | _ => .no
theorem f_tuprg3 {X : Cx} {G : Cfg} {W : WX} {a b c : Expr} {fa : EvA} {p p2 pos pos2 : Pos} (hc : X.calm = true) (hg : Gl X "tuple") (hm : X.mg "tuple" = none) (hgr : Gl X "range") (hmr : X.mg "range" = none) (ha : PA X [a, b, c] (tA G fa W))
    (na : starEach [.Call (.Name "range" p2) [a, b, c] [] pos2] X.env = (false, eval (.Call (.Name "range" p2) [a, b, c] [] pos2) X.env) :: starEach [] X.env := by rfl)
    (hs : starEach [a, b, c] X.env = (false, eval a X.env) :: starEach [b, c] X.env := by rfl) (hpl : (backTo pos2 (starEach [b, c] X.env)).any (·.1) = false := by rfl) :
    PE X (.Call (.Name "tuple" p) [.Call (.Name "range" p2) [a, b, c] [] pos2] [] pos) (tE G (eTRg3 fa) W) :=
  PE.imp (pe_tupRg3 hc hg hm hgr hmr ha na hs hpl) fun σ _ Q ⟨us, w, e, m, sl, h⟩ => by
    subst e
    refine ⟨us, w, rfl, m, sl, (Pt.bind (Rel := RL G) h).imp ?_⟩
    rintro vs H1 ⟨w1, as, rfl, e1, m1, r1, h1⟩
    split at h1
    · rename_i a b c
      cases r1 with
      | cons x1 t =>
        cases t with
        | cons x2 t =>
          cases t with
          | cons x3 t =>
            cases t
            cases x1
            cases x2
            cases x3
            split at h1
            · rename_i q
              rw [Bool.and_eq_true, beq_iff_eq] at q
              obtain ⟨rfl, q⟩ := q
              obtain ⟨b1, b2, b3, b4⟩ := rgOk_b q
              have hz : (a - b).toNat ≤ 2 ^ 24 := (rgOk_ok q).2.2.2.2
              refine ⟨a, b, -1, (a - b).toNat, rfl, RgC.neg b3 b4 b1 b2, hz, fun q hq => h1.newT m1 ?_ hq⟩
              unfold downU rgVC
              have go : ∀ l : List Nat, RL G w1 (l.map fun i => U.int (a + (i : Nat) * (-1))) (l.map fun m => V.int (a + (m : Nat) * (-1))) := fun l => by
                induction l with
                | nil => exact .nil
                | cons x r ih => exact .cons (.int _) ih
              exact go _
            · exact h1.elim
    · exact h1.elim
end Fn
/-! a dict comprehension with two for clauses -/
namespace Fn
open PySem L2 PySem.Spec PyProof.Rows
/-- one clause's turn, whatever is done with what it lets through -/
def clauseT (t : Expr) (ifs : List Expr) (p : Pos) (it : Value) (env : Env) (inner : Sem Unit) (c : Code) : Sem Fin := do
  standAt p
  match ← pyNext it with
  | none => pure (.done .next)
  | some v =>
    letOwnedTupleGo t it v
    assign t env v
    let mut ok := true
    for c in ifs do
      if ok then ok ← isTrue c env (eval c env)
    if ok then inner
    again c
abbrev testsM (ifs : List Expr) (env : Env) : Sem Bool := forIn ifs true fun c r => if r = true then do let ok ← isTrue c env (eval c env); pure (ForInStep.yield ok) else pure (ForInStep.yield r)
section
variable {prog : Program} {w : World} {A : Around} {R : Result → Shared → Prop} {kx vx t : Expr} {gens : List Comprehension} {scope : Scope} {pos : Pos} {ifs : List Expr} {p : Pos} {it acc : Value} {env : Env} {inner : Sem Unit} {depth : Nat}
theorem loopC {e : Expr} (he : e = .DictComp kx vx gens scope pos) (eq : compTurn e depth it acc env = clauseT t ifs p it env inner (.compLoop e depth it acc env)) (I : Nat → Shared → Prop) (NE : Value → Shared → Prop) (hNE : NE = notedBy (model prog w) A env fun x s' => R (.error x) s')
    (turn : ∀ n s, I n s → wpAny (model prog w) A (pyNext it) (fun r s1 => match r with
      | none => R (.ok .next) s1
      | some v => wpAny (model prog w) A (letOwnedTupleGo t it v) (fun _ s2 => wpAny (model prog w) A (assign t env v) (fun _ s3 => wpAny (model prog w) A (testsM ifs env) (fun ok s4 =>
          (ok = true → wpAny (model prog w) A inner (fun _ s5 => ∃ m, m < n ∧ I m s5) NE s4) ∧ (ok = false → ∃ m, m < n ∧ I m s4)) NE s3) NE s2) NE s1) NE s)
    (n : Nat) (s : Shared) (h : I n s) : codeAny (model prog w) A (.compLoop e depth it acc env) R s := by
  subst hNE he
  refine codeAny_loop rfl I (fun n s hI => ?_) n h
  show wpAny _ A ((compTurn (.DictComp kx vx gens scope pos) depth it acc env).onRaise (fun x => do noteFrame x env; theTreesLotGoes x)) _ _ s
  refine wpAny_noted ?_
  rw [eq]
  unfold clauseT
  have up : ∀ {B : Type} {m : Sem B} {Q Q' : B → Shared → Prop} {E : Value → Shared → Prop} {s : Shared}, wpAny (model prog w) A m Q E s → (∀ b s, Q b s → Q' b s) → wpAny (model prog w) A m Q' E s := fun h k => wpAny_mono h k fun _ _ z => z
  refine wpAny_bind (wpAny_standAt (wpAny_bind (up (turn n s hI) fun r s1 h1 => ?_)))
  cases r with
  | none => exact wpAny_pure h1
  | some v =>
    refine wpAny_bind (up h1 fun _ s2 h2 => ?_)
    refine wpAny_bind (up h2 fun _ s3 h3 => ?_)
    refine wpAny_bind (up h3 fun ok s4 h4 => ?_)
    cases ok with
    | false => exact wpAny_pure ⟨rfl, h4.2 rfl⟩
    | true => exact wpAny_bind (up (h4.1 rfl) fun _ s5 h5 => wpAny_pure ⟨rfl, h5⟩)
end
/-- the outer clause's turn -/
def clauseO (t : Expr) (ifs : List Expr) (p : Pos) (it : Value) (env : Env) (i1 : Expr) (e : Expr) (acc : Value) (c : Code) : Sem Fin := do
  standAt p
  match ← pyNext it with
  | none => pure (.done .next)
  | some v =>
    letOwnedTupleGo t it v
    assign t env v
    let mut ok := true
    for c in ifs do
      if ok then ok ← isTrue c env (eval c env)
    if ok then
      let x ← eval i1 env
      standAt i1.pos
      let x ← foldedSetIterable i1 env x
      let _ ← runOwn (.compStart e 1 (← holding [x] (pyIter x)) acc env) env
    again c
/-- what the inner one does -/
def innerPut (kx vx : Expr) (d : Addr) (env : Env) : Sem Unit := do
  let kv ← eval kx env
  let vv ← holding [kv] (eval vx env)
  standAt { kx.pos with endLine := vx.pos.endLine, endCol := vx.pos.endCol }
  holding [kv, vv] (dictSet d kv vv)
section
variable {prog : Program} {w : World} {A : Around} {R : Result → Shared → Prop} {kx vx t0 i0 t1 i1 : Expr} {ifs0 ifs1 : List Expr} {scope : Scope} {pos : Pos} {it acc : Value} {d : Addr} {env : Env} {s : Shared} {E : Value → Shared → Prop}
theorem turnIn : compTurn (.DictComp kx vx [⟨t0, i0, ifs0, 0⟩, ⟨t1, i1, ifs1, 0⟩] scope pos) 1 it (.ref d) env =
    clauseT t1 ifs1 i1.pos it env (innerPut kx vx d env) (.compLoop (.DictComp kx vx [⟨t0, i0, ifs0, 0⟩, ⟨t1, i1, ifs1, 0⟩] scope pos) 1 it (.ref d) env) := by rfl
theorem turnOut : compTurn (.DictComp kx vx [⟨t0, i0, ifs0, 0⟩, ⟨t1, i1, ifs1, 0⟩] scope pos) 0 it acc env =
    clauseO t0 ifs0 i0.pos it env i1 (.DictComp kx vx [⟨t0, i0, ifs0, 0⟩, ⟨t1, i1, ifs1, 0⟩] scope pos) acc (.compLoop (.DictComp kx vx [⟨t0, i0, ifs0, 0⟩, ⟨t1, i1, ifs1, 0⟩] scope pos) 0 it acc env) := by rfl
theorem loopO {gens : List Comprehension} {e t : Expr} {ifs : List Expr} {p : Pos} (he : e = .DictComp kx vx gens scope pos) (eq : compTurn e 0 it acc env = clauseO t ifs p it env i1 e acc (.compLoop e 0 it acc env)) (hs : ∀ x, foldedSetIterable i1 env x = pure x) (I : Nat → Shared → Prop) (NE : Value → Shared → Prop) (hNE : NE = notedBy (model prog w) A env fun x s' => R (.error x) s')
    (turn : ∀ n s, I n s → wpAny (model prog w) A (pyNext it) (fun r s1 => match r with
      | none => R (.ok .next) s1
      | some v => wpAny (model prog w) A (letOwnedTupleGo t it v) (fun _ s2 => wpAny (model prog w) A (assign t env v) (fun _ s3 => wpAny (model prog w) A (testsM ifs env) (fun ok s4 =>
          (ok = true → wpAny (model prog w) A (eval i1 env) (fun x s5 => wpAny (model prog w) A (pyIter x) (fun j s6 => codeAny (model prog w) A (.compStart e 1 j acc env) (fun r s' => match r with | .ok _ => ∃ m, m < n ∧ I m s' | .error _ => False) s6) NE s5) NE s4) ∧ (ok = false → ∃ m, m < n ∧ I m s4)) NE s3) NE s2) NE s1) NE s)
    (n : Nat) (s : Shared) (h : I n s) : codeAny (model prog w) A (.compLoop e 0 it acc env) R s := by
  subst hNE he
  refine codeAny_loop rfl I (fun n s hI => ?_) n h
  show wpAny _ A ((compTurn (.DictComp kx vx gens scope pos) 0 it acc env).onRaise (fun x => do noteFrame x env; theTreesLotGoes x)) _ _ s
  refine wpAny_noted ?_
  rw [eq]
  unfold clauseO
  have up : ∀ {B : Type} {m : Sem B} {Q Q' : B → Shared → Prop} {E : Value → Shared → Prop} {s : Shared}, wpAny (model prog w) A m Q E s → (∀ b s, Q b s → Q' b s) → wpAny (model prog w) A m Q' E s := fun h k => wpAny_mono h k fun _ _ z => z
  refine wpAny_bind (wpAny_standAt (wpAny_bind (up (turn n s hI) fun r s1 h1 => ?_)))
  cases r with
  | none => exact wpAny_pure h1
  | some v =>
    refine wpAny_bind (up h1 fun _ s2 h2 => ?_)
    refine wpAny_bind (up h2 fun _ s3 h3 => ?_)
    refine wpAny_bind (up h3 fun ok s4 h4 => ?_)
    cases ok with
    | false => exact wpAny_pure ⟨rfl, h4.2 rfl⟩
    | true =>
      refine wpAny_bind (up (h4.1 rfl) fun x s5 h5 => ?_)
      refine wpAny_bind (wpAny_standAt (wpAny_bind (wpAny_of_eq (hs x) ?_)))
      refine wpAny_bind (wpAny_holding (up h5 fun j s6 h6 => ?_))
      refine wpAny_bind (wpAny_runOwn ?_)
      rw [Around.mark_none]
      refine codeAny_mono h6 fun r s7 hr => ?_
      cases r with
      | error x => exact hr.elim
      | ok f =>
        first
          | exact wpAny_pure ⟨rfl, hr⟩
          | exact wpAny_bind (wpAny_pure (wpAny_pure ⟨rfl, hr⟩))
theorem put_ok {Q : Unit → Shared → Prop} (h : wpAny (model prog w) A (eval kx env) (fun a s1 => wpAny (model prog w) A (eval vx env) (fun b s2 => wpAny (model prog w) A (dictSet d a b) Q E s2) E s1) E s) : wpAny (model prog w) A (innerPut kx vx d env) Q E s := by
  unfold innerPut
  refine wpAny_bind (wpAny_mono h (fun a s1 h1 => ?_) fun _ _ z => z)
  refine wpAny_bind (wpAny_holding (wpAny_mono h1 (fun b s2 h2 => ?_) fun _ _ z => z))
  exact wpAny_bind (wpAny_standAt (wpAny_holding h2))
theorem start1 (h0 : codeAny (model prog w) A (.compLoop (.DictComp kx vx [⟨t0, i0, ifs0, 0⟩, ⟨t1, i1, ifs1, 0⟩] scope pos) 1 it acc env) R s)
    (h : wpAny (model prog w) A (pyIter it) (fun j s' => codeAny (model prog w) A (.compLoop (.DictComp kx vx [⟨t0, i0, ifs0, 0⟩, ⟨t1, i1, ifs1, 0⟩] scope pos) 1 j acc env) R s') (notedBy (model prog w) A env fun x s' => R (.error x) s') s) :
    codeAny (model prog w) A (.compStart (.DictComp kx vx [⟨t0, i0, ifs0, 0⟩, ⟨t1, i1, ifs1, 0⟩] scope pos) 1 it acc env) R s := by
  refine codeAny_of_tree ?_
  show wpAny _ _ ((compStart (.DictComp kx vx [⟨t0, i0, ifs0, 0⟩, ⟨t1, i1, ifs1, 0⟩] scope pos) 1 it acc env).onRaise (fun x => do noteFrame x env; standAt theWindowsPlace)) _ _ s
  refine wpAny_notedAt ?_
  unfold compStart
  show wpAny _ _ (ask >>= _) _ _ s
  refine wpAny_bind (wpAny_askSetting (wpAny_ite ?_))
  split
  · first
      | exact wpAny_bind (wpAny_pure (wpAny_pure ⟨rfl, h0⟩))
      | exact wpAny_pure ⟨rfl, h0⟩
  · have go : wpAny (model prog w) (A.under (.compStart (.DictComp kx vx [⟨t0, i0, ifs0, 0⟩, ⟨t1, i1, ifs1, 0⟩] scope pos) 1 it acc env)) (do standAt i1.pos; again (.compLoop (.DictComp kx vx [⟨t0, i0, ifs0, 0⟩, ⟨t1, i1, ifs1, 0⟩] scope pos) 1 (← pyIter it) acc env)) (fun fin s' => match fin with | .done f => R (.ok f) s' | .again c' => Code.quiet c' = true ∧ codeAny (model prog w) A c' R s') (notedBy (model prog w) A env fun x s' => R (.error x) s') s :=
      wpAny_bind (wpAny_standAt (wpAny_bind (wpAny_mono h (fun j s' h' => wpAny_pure ⟨rfl, h'⟩) fun _ _ z => z)))
    exact wpAny_bind (wpAny_rule go)
end
/-! ### the whole -/
/-- behind the inner tests -/
def dcPut (tk tv : TE) (D : Addr) (N1 : Hp → Prop) (b : Bool) (σ3 : L2.St) (H6 : Hp) : Prop := (b = false → N1 H6) ∧ (b = true → tk σ3 H6 fun y H7 => tv σ3 H7 fun z H8 => ∃ kvs k, y = kV k ∧ H8 D = some (.dK kvs) ∧ kvs.length < sizeLine ∧ N1 (upd H8 D (.dK (putK kvs k z))))
/-- the inner loop -/
def dcIn (g1 : TG) (tt1 : TT) (tk tv : TE) (vs1 : List Nat) (D : Addr) (N0 : Hp → Prop) (σ2 : L2.St) (J1 : It) (H4 : Hp) : Prop := ∃ W1 : Nat → Nat → Hp → Prop, (∃ m, W1 0 m H4) ∧
  ∀ j k H, W1 j k H → (J1.stop j H ∧ N0 H) ∨ (J1.go j H ∧ ∃ N1 : Hp → Prop, (∀ H', N1 H' → ∃ k', k' < k ∧ W1 (j + 1) k' H') ∧
    ∀ x H', J1.yld j H x H' → g1 x (wipe σ2 vs1) H' fun σ3 H5 => wipe σ3 vs1 = wipe σ2 vs1 ∧ tt1 σ3 H5 fun b H6 => dcPut tk tv D N1 b σ3 H6)
/-- behind the outer tests -/
def dcOut (wi1 : TI) (g1 : TG) (tt1 : TT) (tk tv : TE) (vs1 : List Nat) (D : Addr) (N0 : Hp → Prop) (b : Bool) (σ2 : L2.St) (H3 : Hp) : Prop := (b = false → N0 H3) ∧ (b = true → wi1 σ2 H3 (dcIn g1 tt1 tk tv vs1 D N0 σ2))
/-- {k: v for tg in iter if .. for tg1 in iter1 if ..}: D the new dict; vs the block's names, vs1 those of the inner target -/
def tDc2 (wi : TI) (g : TG) (tt : TT) (wi1 : TI) (g1 : TG) (tt1 : TT) (tk tv : TE) (vs vs1 : List Nat) : TE := fun σ H Q => wi σ H fun J H1 => ∀ D, H1 D = none → ∃ W : Nat → Nat → Hp → Prop, (∃ m, W 0 m (upd H1 D (.dK []))) ∧
  ∀ i m H, W i m H → (J.stop i H ∧ Q (.ref D) H) ∨ (J.go i H ∧ ∃ N0 : Hp → Prop, (∀ H', N0 H' → ∃ m', m' < m ∧ W (i + 1) m' H') ∧
    ∀ x H', J.yld i H x H' → g x (wipe σ vs) H' fun σ2 H2 => wipe σ2 vs = wipe σ vs ∧ tt σ2 H2 fun b H3 => dcOut wi1 g1 tt1 tk tv vs1 D N0 b σ2 H3)
section
variable {X : Cx}
/-- what a loop's turn begins with, in a block that lets nothing out -/
structure Beg (Y : Cx) (P : List (Addr × Obj)) (fp : List Addr) (tn : Nat → Heap → Prop) (σ : L2.St) (i : Nat) (H : Hp) (s : Shared) : Prop where
  inv : Inv Y P σ H s
  tn : tn i s.heap
  fr : ∀ b ∈ fp, H b = none
/-- where the tests are done -/
structure Mid (Y : Cx) (P : List (Addr × Obj)) (fp : List Addr) (tn : Nat → Heap → Prop) (i : Nat) (h : Heap) (σ : L2.St) (H : Hp) (s : Shared) : Prop where
  inv : Inv Y (P ++ pinsAt fp h) σ H s
  tn : tn (i + 1) h
theorem Mid.next {Y : Cx} {P : List (Addr × Obj)} {fp : List Addr} {tg : Expr} {J : It} {it : Addr} {tn : Nat → Heap → Prop} {i : Nat} {h : Heap} {σ σ0 : L2.St} {H : Hp} {s : Shared} (T : Turn Y.prog Y.w Y.K tg J fp it tn) (m : Mid Y P fp tn i h σ H s) (hl : σ0.length = σ.length)
    (hk : ∀ (j : Nat) v, σ0[j]? = some (some v) → σ[j]? = some (some v)) : Beg Y P fp tn σ0 (i + 1) H s := by
  have pin : ∀ b ∈ fp, ∀ o, h.get? b = some o → s.heap.get? b = some o ∧ H b = none := fun b hb o e =>
    have z := m.inv.pin (b, o) (List.mem_append_right _ (List.mem_append_right _ (mem_pinsAt hb e)))
    ⟨z.1, z.2.1⟩
  refine ⟨m.inv.unpinned.weak hl hk, T.keep _ _ _ m.tn fun b hb o e => (pin b hb o e).1, fun b hb => ?_⟩
  obtain ⟨o, e, _⟩ := T.obj _ _ m.tn b hb
  exact (pin b hb o e).2
/-- one turn: the item, its store, the tests -/
theorem one_turn {Y : Cx} {P : List (Addr × Obj)} {fp : List Addr} {tg : Expr} {ifs : List Expr} {g : TG} {tt : TT} {J : It} {it : Addr} {tn : Nat → Heap → Prop} {i : Nat} {σ : L2.St} {H : Hp} {s : Shared} {L : L2.St → Prop} {Kk : Bool → L2.St → Hp → Prop} {NE : Value → Shared → Prop} {Z : Bool → Shared → Prop} {R0 : Shared → Prop}
    (hc : Y.calm = true) (hx : Y.xe = fun _ _ => False) (T : Turn Y.prog Y.w Y.K tg J fp it tn) (hfp : ∀ H, (∀ b ∈ fp, H b = none) → ∀ b ∈ fp, FpOk Y P H b) (pg : PG Y tg g) (pt : PTs Y ifs tt) (B : Beg Y P fp tn σ i H s) (go : J.go i H)
    (step : ∀ x H', J.yld i H x H' → g x σ H' fun σ2 H2 => L σ2 ∧ tt σ2 H2 fun b H3 => Kk b σ2 H3) (done : ∀ h b σ2 H3 s4, Mid Y P fp tn i h σ2 H3 s4 → L σ2 → Kk b σ2 H3 → Z b s4) :
    wpAny (model Y.prog Y.w) Y.A (pyNext (.ref it)) (fun r s1 => match r with
      | none => R0 s1
      | some v => wpAny (model Y.prog Y.w) Y.A (letOwnedTupleGo tg (.ref it) v) (fun _ s2 => wpAny (model Y.prog Y.w) Y.A (assign tg Y.env v) (fun _ s3 => wpAny (model Y.prog Y.w) Y.A (testsM ifs Y.env) Z NE s3) NE s2) NE s1) NE s := by
  have nx : ∀ e s, ¬ Y.xe e s := fun e s z => by rw [hx] at z; exact z
  refine thnF (T.item Y rfl rfl rfl hc i P s σ H (fun _ _ => False) B.inv (hfp H B.fr) B.tn go) fun r s1 ⟨u, hr, h1⟩ => ?_
  subst hr
  refine thnF h1 fun _ s2 ⟨x, H2, I2, r2, y2, t2, n2⟩ => ?_
  have I2' := I2.pinned (hfp H2 n2) (T.obj _ _ t2)
  refine wpAny_mono (pg.run _ s2 σ H2 x u _ I2' r2 (step x H2 y2)) (fun _ s3 ⟨σ3, H3, I3, l3, q3⟩ => ?_) fun e s z => (nx e s z).elim
  refine wpAny_mono (pt.run _ s3 σ3 H3 _ I3 q3) (fun b s4 ⟨H4, I4, q4⟩ => ?_) fun e s z => (nx e s z).elim
  exact done _ b σ3 H4 s4 ⟨I4, t2⟩ l3 q4
theorem dc2_any {X : Cx} {pins : List (Addr × Obj)} {s : Shared} {σ : L2.St} {H : Hp} {Q : VK} {pos' : Pos} {use : Option (Value → Sem Unit)} {Qf : Value → Shared → Prop} (I : Inv X pins σ H s) {kx vx tg iter tg1 iter1 : Expr} {ifs ifs1 : List Expr} {scope : Scope} {own : List (Str × Nat)} {vs1 : List Nat} {pos : Pos} {wi wi1 : TI} {g g1 : TG} {tt tt1 : TT} {tk tv : TE} (hc : X.calm = true) (hN : X.N.Nodup) (hi : PI X tg iter wi) (ok : BlkOk X.N X.env.scope scope own) (hv : ∀ i ∈ vs1, i ∈ own.map (·.2))
    (hb : ∀ (s : Shared) (H : Hp) (C : Addr) (cl : List (Str × Addr)) (fp : List Addr), let Y := X.blk s H scope (compEnvC scope cl C X.env) fp; PG Y tg g ∧ PTs Y ifs tt ∧ PI Y tg1 iter1 wi1 ∧ PG Y tg1 g1 ∧ PTs Y ifs1 tt1 ∧ PE Y kx tk ∧ PE Y vx tv)
    (hs : ∀ x, foldedSetIterable iter X.env x = pure x) (hs1 : ∀ env x, foldedSetIterable iter1 env x = pure x) (h : tDc2 wi g tt wi1 g1 tt1 tk tv (own.map (·.2)) vs1 σ H Q)
    (hR : ∀ D C s' m H', Inv X pins σ H' s' → Q (.ref D) H' → s'.heap.Ns C m → FpOk X pins H' C → compPost (model X.prog X.w) X.A X.xe use Qf (.ref D) C (.ok .next) s') :
    wpAny (model X.prog X.w) X.A (comprehension (.DictComp kx vx [⟨tg, iter, ifs, 0⟩, ⟨tg1, iter1, ifs1, 0⟩] scope pos) scope X.env pos' newDict false (eval iter X.env) use) Qf X.xe s := by
  have free : ∀ y ∈ scope.names, y.2 = .free → ∃ c, X.env.cells.lookup y.1 = some c := fun y hy e => (ok.free y hy e).elim (fun k => I.ok.has _ (.inl k)) fun k => I.ok.has _ (.inr k)
  refine wpAny_comprehension_free (use := use) rfl hs (closure_ok free) ok.kind (fun y hy e => by rw [ok.uniq y hy, e])
    (thn (hi.run pins s σ H _ I h) fun xv s1 hx => thn hx fun itv s2 ⟨it, fp, tn, J, H2, e, I2, T, st2, f2, q⟩ => ?_)
  subst e
  refine wpAny_newObj_type (newEnv_comp ?_)
  generalize hD : s2.heap.objs.size = D
  obtain ⟨W, ⟨m0, w0⟩, turn⟩ := q D (I2.hok.fresh (Nat.le_of_eq hD))
  generalize hs3 : ({ s2 with heap := s2.heap.push { cls := .type "dict", data := .dict #[] } } : Shared) = s3
  have h3 : s3.heap = s2.heap.push { cls := .type "dict", data := .dict #[] } := by rw [← hs3]
  have I3 : Inv X pins σ (upd H2 D (.dK [])) s3 := by
    rw [← hs3]
    exact I2.laid (t' := s2.toks) (fun b o e => Heap.get?_push_of_some _ e) (Nat.le_of_eq hD) (by rw [← hD]; exact dk_empty s2.heap I2.big)
  have f3 : ∀ b ∈ fp, FpOk X pins (upd H2 D (.dK [])) b ∧ b < s3.heap.objs.size := fun b hb => by
    obtain ⟨o, e, _⟩ := T.obj _ _ st2 b hb
    have hlt := Heap.lt_size e
    refine ⟨⟨?_, (f2 b hb).2⟩, by rw [h3, Heap.size_push]; exact Nat.lt_succ_of_lt hlt⟩
    rw [upd_ne (by rw [← hD]; exact Nat.ne_of_lt hlt)]
    exact (f2 b hb).1
  have st3 : tn 0 s3.heap := T.keep _ _ _ st2 fun b _ o e => by rw [h3]; exact Heap.get?_push_of_some _ e
  have I4 := block_start I3 ok hN f3
  have pb := hb s3 (upd H2 D (.dK [])) s3.heap.objs.size (cellsFrom (s3.heap.objs.size + 1) scope.names (cloFrom X.env.cells scope.names [])) fp
  have nfp : ∀ b ∈ fp, (upd H2 D (.dK [])) b = none := fun b hb => (f3 b hb).1.1
  show codeAny _ _ (.compStart (.DictComp kx vx [⟨tg, iter, ifs, 0⟩, ⟨tg1, iter1, ifs1, 0⟩] scope pos) 0 (.ref it) (.ref D) (compEnvC scope (cellsFrom (s3.heap.objs.size + 1) scope.names (cloFrom X.env.cells scope.names [])) s3.heap.objs.size X.env)) _ { s3 with heap := pushCells (s3.heap.push { cls := .type "dict", data := .dict #[] }) scope.names }
  generalize hce : compEnvC scope (cellsFrom (s3.heap.objs.size + 1) scope.names (cloFrom X.env.cells scope.names [])) s3.heap.objs.size X.env = ce at I4 pb ⊢
  have cL : ce.locals = s3.heap.objs.size := by subst hce; rfl
  generalize hH3 : upd H2 D (.dK []) = H3 at I3 I4 pb w0 nfp f3
  generalize hs4 : ({ s3 with heap := pushCells (s3.heap.push { cls := .type "dict", data := .dict #[] }) scope.names } : Shared) = s4 at I4 ⊢
  have st4 : tn 0 s4.heap := T.keep _ _ _ st3 fun b _ o e => by rw [← hs4]; exact pushCells_keeps _ _ _ _ (Heap.get?_push_of_some _ e)
  obtain ⟨pg, pt, pi1, pg1, pt1, pk, pv⟩ := pb
  have fpY : ∀ H, (∀ b ∈ fp, H b = none) → ∀ (σ : L2.St) (s : Shared), Inv (X.blk s3 H3 scope ce fp) [] σ H s → ∀ b ∈ fp, FpOk (X.blk s3 H3 scope ce fp) [] H b := fun H hn σ s I' b hb =>
    ⟨hn b hb, (I'.ok.exf b hb).1, I'.ok.exfs b hb, .inl hb, fun x c e => (I'.ok.exf b hb).2 x c e, fun p hp => by simp at hp⟩
  generalize hE : Expr.DictComp kx vx [⟨tg, iter, ifs, 0⟩, ⟨tg1, iter1, ifs1, 0⟩] scope pos = E
  have loop : ∀ (Post : Result → Shared → Prop), (∀ s' H', Inv (X.blk s3 H3 scope ce fp) [] (wipe σ (own.map (·.2))) H' s' → Q (.ref D) H' → Post (.ok .next) s') → codeAny (model X.prog X.w) X.A (.compLoop E 0 (.ref it) (.ref D) ce) Post s4 := by
    intro Post hPost
    refine loopO hE.symm (by rw [← hE]; exact turnOut) (hs1 ce) (fun n s' => ∃ i H', Beg (X.blk s3 H3 scope ce fp) [] fp tn (wipe σ (own.map (·.2))) i H' s' ∧ W i n H') _ rfl ?_ m0 s4 ⟨0, H3, ⟨I4, st4, nfp⟩, w0⟩
    rintro n s5 ⟨i, H5, B5, w5⟩
    rcases turn i n H5 w5 with ⟨stop, qq⟩ | ⟨go, N0, hN0, step⟩
    · refine thnF (T.done (X.blk s3 H3 scope ce fp) rfl rfl rfl hc i [] s5 _ H5 (fun _ _ => False) B5.inv (fpY _ B5.fr _ _ B5.inv) B5.tn stop) fun r s6 ⟨hr, I6⟩ => ?_
      subst hr
      exact hPost s6 H5 I6 qq
    · refine one_turn (Y := X.blk s3 H3 scope ce fp) hc rfl T (fun H hn b hb => ?_) pg pt B5 go step fun h b σ8 H9 s9 M l8 q9 => ?_
      · exact ⟨hn b hb, (B5.inv.ok.exf b hb).1, B5.inv.ok.exfs b hb, .inl hb, fun x c e => (B5.inv.ok.exf b hb).2 x c e, fun p hp => by simp at hp⟩
      have fin : ∀ {σ9 : L2.St} {s' : Shared} {H' : Hp}, Inv (X.blk s3 H3 scope ce fp) ([] ++ pinsAt fp h) σ9 H' s' → (wipe σ (own.map (·.2))).length = σ9.length → (∀ (j : Nat) v, (wipe σ (own.map (·.2)))[j]? = some (some v) → σ9[j]? = some (some v)) → N0 H' →
          ∃ m, m < n ∧ ∃ i H', Beg (X.blk s3 H3 scope ce fp) [] fp tn (wipe σ (own.map (·.2))) i H' s' ∧ W i m H' := fun {σ9 s' H'} I' hl hk nx => by
        obtain ⟨m', hm, w'⟩ := hN0 H' nx
        exact ⟨m', hm, i + 1, H', Mid.next (Y := X.blk s3 H3 scope ce fp) T ⟨I', M.tn⟩ hl hk, w'⟩
      have hl8 : (wipe σ (own.map (·.2))).length = σ8.length := by rw [← l8, wipe_length]
      have hk8 : ∀ (j : Nat) v, (wipe σ (own.map (·.2)))[j]? = some (some v) → σ8[j]? = some (some v) := fun j v e => by
        rw [← l8] at e
        exact (wipe_some e).1
      have hk9 : ∀ (j : Nat) v, (wipe σ (own.map (·.2)))[j]? = some (some v) → (wipe σ8 vs1)[j]? = some (some v) := fun j v e => by
        rw [← l8] at e
        obtain ⟨e1, e2⟩ := wipe_some e
        rw [wipe_out fun z => e2 (hv j z)]
        exact e1
      refine ⟨fun hb => ?_, fun hb => fin M.inv hl8 hk8 (q9.1 hb)⟩
      refine thnF (pi1.run _ s9 σ8 H9 _ M.inv (q9.2 hb)) fun xv s10 hx => thnF hx fun itv s11 ⟨it1, fp1, tn1, J1, H11, e1, I11, T1, st11, f11, W1, ⟨m1, w1⟩, turn1⟩ => ?_
      subst e1
      -- the inner loop
      have loop1 : codeAny (model X.prog X.w) X.A (.compLoop E 1 (.ref it1) (.ref D) ce)
          (fun r s' => match r with | .ok _ => ∃ m, m < n ∧ ∃ i H', Beg (X.blk s3 H3 scope ce fp) [] fp tn (wipe σ (own.map (·.2))) i H' s' ∧ W i m H' | .error _ => False) s11 := by
        refine loopC hE.symm (by rw [← hE]; exact turnIn) (fun k s' => ∃ j H', Beg (X.blk s3 H3 scope ce fp) ([] ++ pinsAt fp h) fp1 tn1 (wipe σ8 vs1) j H' s' ∧ W1 j k H') _ rfl ?_ m1 s11 ⟨0, H11, ⟨I11.weak (wipe_length _ _) (fun j v e => (wipe_some e).1), st11, fun b hb => (f11 b hb).1⟩, w1⟩
        rintro k s12 ⟨j, H12, B12, w12⟩
        rcases turn1 j k H12 w12 with ⟨stop1, nx1⟩ | ⟨go1, N1, hN1, step1⟩
        · refine thnF (T1.done (X.blk s3 H3 scope ce fp) rfl rfl rfl hc j _ s12 _ H12 (fun _ _ => False) B12.inv (fun b hb => ⟨B12.fr b hb, (f11 b hb).2⟩) B12.tn stop1) fun r s13 ⟨hr, I13⟩ => ?_
          subst hr
          exact fin I13 (hl8.trans (wipe_length σ8 vs1).symm) hk9 nx1
        · refine one_turn (Y := X.blk s3 H3 scope ce fp) hc rfl T1 (fun H hn b hb => ⟨hn b hb, (f11 b hb).2⟩) pg1 pt1 B12 go1 step1 fun h1 b1 σ15 H16 s16 M1 l15 q16 => ?_
          have fin1 : ∀ {s' : Shared} {H' : Hp}, Inv (X.blk s3 H3 scope ce fp) (([] ++ pinsAt fp h) ++ pinsAt fp1 h1) σ15 H' s' → N1 H' → ∃ m, m < k ∧ ∃ j H', Beg (X.blk s3 H3 scope ce fp) ([] ++ pinsAt fp h) fp1 tn1 (wipe σ8 vs1) j H' s' ∧ W1 j m H' := fun {s' H'} I' nx => by
            obtain ⟨m', hm, w'⟩ := hN1 H' nx
            exact ⟨m', hm, j + 1, H', Mid.next (Y := X.blk s3 H3 scope ce fp) T1 ⟨I', M1.tn⟩ (by rw [← l15, wipe_length]) (fun j v e => by rw [← l15] at e; exact (wipe_some e).1), w'⟩
          refine ⟨fun hb1 => put_ok ?_, fun hb1 => fin1 M1.inv (q16.1 hb1)⟩
          refine thnF (pk.run _ s16 σ15 H16 _ M1.inv (q16.2 hb1)) fun a s17 ⟨yk, H17, I17, r17, q17⟩ => ?_
          refine thnF (pv.run _ s17 σ15 H17 _ I17 q17) fun c s18 ⟨yv, H18, I18, r18, kvs, ky, ek, hD18, hz18, nx⟩ => ?_
          subst ek
          exact d_dictSet (X := X.blk s3 H3 scope ce fp) I18 hD18 hz18 r17 r18 fun s19 I19 => fin1 I19 nx
      rw [← hE] at loop1 ⊢
      exact start1 loop1 (T1.self X.A 0 _ _ _ st11 loop1)
  rw [← hE] at loop ⊢
  refine (fun L => codeAny_compStart_dict L (T.self X.A 0 _ _ _ st4 L)) (loop _ fun s6 H5 I6 qq => ?_)
  have I7 : Inv X pins σ H5 s6 := I3.call' (ch := fp) I6.os I6.base I6.hok I6.bare fun b hb => ⟨(f3 b hb).1.2.2.2.1, (f3 b hb).1.2.1, (f3 b hb).1.2.2.2.2.1, (f3 b hb).1.2.2.2.2.2⟩
  have nC : H5 s3.heap.objs.size = none := by
    have z : H5 ce.locals = none := I6.free
    rw [cL] at z
    exact z
  obtain ⟨m, hn, _⟩ := I6.loc
  have hn : s6.heap.Ns ce.locals m := hn
  rw [cL] at hn
  exact hR D s3.heap.objs.size s6 m H5 I7 qq hn (I3.fpOk (Nat.le_refl _) nC)
/-- y = {k: v for .. for ..} on one line -/
theorem ps_setDc2 {X : Cx} {i : Nat} {y : Str} {py spos : Pos} {kx vx tg iter tg1 iter1 : Expr} {ifs ifs1 : List Expr} {scope : Scope} {own : List (Str × Nat)} {vs1 : List Nat} {pos : Pos} {wi wi1 : TI} {g g1 : TG} {tt tt1 : TT} {tk tv : TE} (hc : X.calm = true) (hN : X.N.Nodup) (hy : X.N[i]? = some y) (hyl : X.env.scope.names.lookup y = some .local)
    (hsw : swapsWith (.DictComp kx vx [⟨tg, iter, ifs, 0⟩, ⟨tg1, iter1, ifs1, 0⟩] scope pos) (some (.Name y py)) spos.line X.env = pure true) (hi : PI X tg iter wi) (ok : BlkOk X.N X.env.scope scope own) (hv : ∀ i ∈ vs1, i ∈ own.map (·.2))
    (hb : ∀ (s : Shared) (H : Hp) (C : Addr) (cl : List (Str × Addr)) (fp : List Addr), let Y := X.blk s H scope (compEnvC scope cl C X.env) fp; PG Y tg g ∧ PTs Y ifs tt ∧ PI Y tg1 iter1 wi1 ∧ PG Y tg1 g1 ∧ PTs Y ifs1 tt1 ∧ PE Y kx tk ∧ PE Y vx tv)
    (hs : ∀ x, foldedSetIterable iter X.env x = pure x := by intro _; rfl) (hs1 : ∀ env x, foldedSetIterable iter1 env x = pure x := by intro _ _; rfl) :
    PS X (.Assign [.Name y py] (.DictComp kx vx [⟨tg, iter, ifs, 0⟩, ⟨tg1, iter1, ifs1, 0⟩] scope pos) spos) (fun D σ H => tDc2 wi g tt wi1 g1 tt1 tk tv (own.map (·.2)) vs1 σ H fun x H1 => gName i x σ H1 D.nx) := by
  refine ⟨fun pins s σ H D I h => ?_⟩
  rw [exec_Assign_Name_used _ _ _ _ hsw]
  refine wpAny_bind (wpAny_standAt (wpAny_bind ?_))
  show wpAny _ X.A (do let _ ← comprehension (.DictComp kx vx [⟨tg, iter, ifs, 0⟩, ⟨tg1, iter1, ifs1, 0⟩] scope pos) scope X.env (firstIterPos [⟨tg, iter, ifs, 0⟩, ⟨tg1, iter1, ifs1, 0⟩] pos) newDict false (eval iter X.env) (some (assign (.Name y py) X.env))) _ _ s
  refine wpAny_bind (thn (dc2_any (Qf := fun _ s' => SP X pins D .next s') I hc hN hi ok hv hb hs hs1 h fun L C s' m H' I' q hn ⟨f0, f1, _, f3, f4, f5⟩ => ?_) fun _ s' hq => wpAny_pure (wpAny_pure hq))
  show wpAny _ _ (assign (.Name y py) X.env (.ref L)) _ _ _
  refine wpAny_assign_Name (store_ok2 (v := V.ref L) I' hN hy (.inl hyl) rfl (fun s2 I2 ⟨a, sb, ha⟩ => ?_) (.inr hyl))
  have ne : C ≠ a := ha.elim (fun z => by rw [z]; exact f1) fun z e => f4 y a z e.symm
  exact ⟨m, hn.sameBut sb ne, fun h3 sb3 => ⟨_, H', I2.turned (t' := s2.toks) (fun b o hb e => (sb3.2 b hb).trans e) f0 f1 f3 f4 f5, q⟩⟩
end
end Fn
/-! dicts of ints or texts as keys: {k: v for .. for ..}, d[k] -/
namespace Fn
open PySem L2 PySem.Spec PyProof.Rows
section
variable {κ : Type} [DecidableEq κ]
def putU (kvs : List (κ × U)) (k : κ) (u : U) : List (κ × U) :=
  match kvs.any fun kv => decide (kv.1 = k) with
  | true => kvs.map fun kv => match decide (kv.1 = k) with | true => (kv.1, u) | false => kv
  | false => kvs ++ [(k, u)]
def valU (kvs : List (κ × U)) (k : κ) : Option U := match kvs with
  | [] => none
  | p :: r => match decide (p.1 = k) with | true => some p.2 | false => valU r k
inductive RK (G : Cfg) (w : Wd) : List (κ × U) → List (κ × V) → Prop
  | nil : RK G w [] []
  | cons {k : κ} {u : U} {v : V} {us : List (κ × U)} {vs : List (κ × V)} : R G w u v → RK G w us vs → RK G w ((k, u) :: us) ((k, v) :: vs)
variable {G : Cfg} {w w' : Wd}
theorem RK.length : ∀ {us : List (κ × U)} {vs : List (κ × V)}, RK G w us vs → us.length = vs.length
  | _, _, .nil => rfl
  | _, _, .cons _ t => by simp [RK.length t]
theorem RK.mon (e : Mon G w w') : ∀ {us : List (κ × U)} {vs : List (κ × V)}, RK G w us vs → RK G w' us vs
  | _, _, .nil => .nil
  | _, _, .cons r t => .cons (r.mon e) (RK.mon e t)
theorem RK.up (m : Sm G w) (e : Ext w w') : ∀ {us : List (κ × U)} {vs : List (κ × V)}, RK G w us vs → RK G w' us vs
  | _, _, .nil => .nil
  | _, _, .cons r t => .cons (r.up m e) (RK.up m e t)
theorem RK.any (k : κ) : ∀ {us : List (κ × U)} {vs : List (κ × V)}, RK G w us vs → (us.any fun kv => decide (kv.1 = k)) = vs.any fun kv => decide (kv.1 = k)
  | _, _, .nil => rfl
  | _, _, .cons _ t => by rw [List.any_cons, List.any_cons, RK.any k t]
theorem RK.over (k : κ) {u : U} {v : V} (r : R G w u v) : ∀ {us : List (κ × U)} {vs : List (κ × V)}, RK G w us vs →
    RK G w (us.map fun kv => match decide (kv.1 = k) with | true => (kv.1, u) | false => kv) (vs.map fun kv => if kv.1 = k then (kv.1, v) else kv)
  | _, _, .nil => .nil
  | _, _, @RK.cons _ _ _ k' _ _ _ _ r1 t => by
    rw [List.map_cons, List.map_cons]
    by_cases e : k' = k
    · simp only [e, decide_true, if_true]
      exact .cons r (RK.over k r t)
    · simp only [e, decide_false, if_false]
      exact .cons r1 (RK.over k r t)
theorem RK.append {us1 : List (κ × U)} {vs1 : List (κ × V)} (h1 : RK G w us1 vs1) : ∀ {us : List (κ × U)} {vs : List (κ × V)}, RK G w us vs → RK G w (us ++ us1) (vs ++ vs1)
  | _, _, .nil => h1
  | _, _, .cons r t => .cons r (RK.append h1 t)
theorem RK.put (k : κ) {u : U} {v : V} (r : R G w u v) {us : List (κ × U)} {vs : List (κ × V)} (h : RK G w us vs) : RK G w (putU us k u) (putK vs k v) := by
  unfold putU putK
  rw [← h.any k]
  cases us.any fun kv => decide (kv.1 = k) with
  | true => exact h.over k r
  | false => exact RK.append (.cons r .nil) h
theorem RK.val {k : κ} {u : U} : ∀ {us : List (κ × U)} {vs : List (κ × V)}, RK G w us vs → valU us k = some u → ∃ v, valV vs k = some v ∧ R G w u v
  | _, _, .nil, e => by cases e
  | _, _, @RK.cons _ _ _ k' u' v' _ _ r t, e => by
    unfold valU at e
    split at e
    · rename_i q
      cases e
      have q : k' = k := of_decide_eq_true q
      exact ⟨v', valV_pos q, r⟩
    · rename_i q
      obtain ⟨v, h1, h2⟩ := RK.val t e
      have q : ¬ k' = k := of_decide_eq_false q
      exact ⟨v, by rw [valV_neg (p := (k', v')) q]; exact h1, h2⟩
theorem RK.zip : ∀ {us : List (κ × U)} {vs : List (κ × V)}, RK G w us vs → vs = (us.map (·.1)).zip (vs.map (·.2)) ∧ RL G w (us.map (·.2)) (vs.map (·.2))
  | _, _, .nil => ⟨rfl, .nil⟩
  | _, _, .cons r t => by
    obtain ⟨h1, h2⟩ := RK.zip t
    refine ⟨?_, .cons r h2⟩
    rw [List.map_cons, List.map_cons, List.zip_cons_cons, ← h1]
theorem RK.of : ∀ {us : List (κ × U)} {vs : List V}, RL G w (us.map (·.2)) vs → RK G w us ((us.map (·.1)).zip vs)
  | [], _, h => by cases h; exact .nil
  | (k, u) :: r, _, h => by
    cases h with
    | cons r1 t => exact .cons r1 (RK.of t)
end
/-! ### the new dict -/
section
variable {G : Cfg} {w w' : Wd}
/-- any new object, tracked from here on -/
theorem toTrackedO {o : UO} {p : Addr} (e : Ext w w') (m : Sm G w') (ho : ∀ w'', Les w' w'' → RO G w'' p o) (hn : w.H p = none) (hz : w'.Z p) (hr : p ∉ w'.r) :
    ∃ w'' : Wd, w''.h = w'.h ++ [o] ∧ w''.H = w'.H ∧ Ext w w'' ∧ Sm G w'' ∧ R G w'' (.ref w'.h.length) (.ref p) := by
  have hle : Les w' { w' with r := w'.r ++ [p], h := w'.h ++ [o] } := ⟨fun a h => h, fun i a h => by
    show (w'.r ++ [p])[i]? = some a
    rw [List.getElem?_append_left (List.getElem?_eq_some_iff.mp h).1]; exact h, rfl⟩
  refine ⟨{ w' with r := w'.r ++ [p], h := w'.h ++ [o] }, rfl, rfl, ⟨?_, e.zi, e.zs, e.keep, e.dom⟩, ⟨by simp [m.len], ?_, fun a h => ?_, m.dom, fun i a x h1 h2 => ?_⟩, .ref ?_⟩
  · obtain ⟨nw, e1, e2⟩ := e.nw
    refine ⟨nw ++ [p], by show w'.r ++ [p] = _; rw [e1, List.append_assoc], fun a ha => ?_⟩
    rcases List.mem_append.mp ha with q | q
    · exact e2 a q
    · rw [List.mem_singleton.mp q]; exact hn
  · show (w'.r ++ [p]).Nodup
    rw [List.nodup_append]
    exact ⟨m.nd, by simp, fun a ha b hb => by rw [List.mem_singleton.mp hb]; exact fun z => hr (z ▸ ha)⟩
  · rcases List.mem_append.mp (show a ∈ w'.r ++ [p] from h) with q | q
    · exact m.z a q
    · rw [List.mem_singleton.mp q]; exact hz
  · have h1 : (w'.r ++ [p])[i]? = some a := h1
    have h2 : (w'.h ++ [o])[i]? = some x := h2
    by_cases hi : i < w'.h.length
    · rw [List.getElem?_append_left (by rw [m.len]; exact hi)] at h1
      rw [List.getElem?_append_left hi] at h2
      cases m.obj i a x h1 h2 with
      | lst h l => exact .lst h (l.les hle)
      | dk h l => exact .dk h (l.les hle)
      | dt h l => exact .dt h (l.les hle)
      | ins h hl l => exact .ins h hl (l.les hle)
    · have hi2 : i = w'.h.length := by
        have := (List.getElem?_eq_some_iff.mp h2).1
        simp at this
        omega
      subst hi2
      rw [List.getElem?_append_right (by rw [m.len]; exact Nat.le_refl _), m.len, Nat.sub_self] at h1
      rw [List.getElem?_append_right (Nat.le_refl _), Nat.sub_self] at h2
      cases h1
      cases h2
      exact ho _ hle
  · show (w'.r ++ [p])[w'.h.length]? = some p
    rw [List.getElem?_append_right (by rw [m.len]; exact Nat.le_refl _), m.len, Nat.sub_self]
    rfl
end
def keyU : U → Option Key | .int i => some (.inl i) | .str x => some (.inr x) | _ => none
theorem keyU_of {G : Cfg} {w : Wd} {u : U} {v : V} {k : Key} (r : R G w u v) (h : keyU u = some k) : v = kV k := by
  cases r with
  | int i => cases h; rfl
  | str x => cases h; rfl
  | _ => cases h
/-- d[k] = v of the p-th own object -/
def putP (p : Nat) (ku vu : U) (h : List UO) : Rs Unit := match keyU ku, h[p]? with
  | some k, some (.dk acc) => (match Nat.blt acc.length 16777216 with | true => .ok () (h.set p (.dk (putU acc k vu))) | false => .no)
  | _, _ => .no
theorem putP_of {G : Cfg} {w : Wd} {p : Nat} {D : Addr} {ku vu : U} {vk vv : V} {h' : List UO} (m : Sm G w) (hr : w.r[p]? = some D) (rk : R G w ku vk) (rv : R G w vu vv) (h : putP p ku vu w.h = .ok () h') :
    ∃ kvs k, vk = kV k ∧ w.H D = some (.dK kvs) ∧ kvs.length < sizeLine ∧ ∃ w' : Wd, w'.H = upd w.H D (.dK (putK kvs k vv)) ∧ w'.h = h' ∧ Ext w w' ∧ Sm G w' := by
  unfold putP at h
  split at h
  · rename_i k acc hk hp
    split at h
    · rename_i hz
      cases h
      cases m.obj _ _ _ hr hp with
      | @dk _ ws hv l =>
        have l2 := RK.of l
        have e : Ext w (w.put p D (.dk (putU acc k vu)) (.dK (putK ((acc.map (·.1)).zip ws) k vv))) := Ext.put m hr hp
        refine ⟨_, k, keyU_of rk hk, hv, ?_, _, rfl, rfl, e, m.put hr hp ?_⟩
        · rw [← l2.length, sizeLine_eq]
          exact Nat.le_of_ble_eq_true hz
        · obtain ⟨q1, q2⟩ := ((l2.put k rv).up m e).zip
          exact .dk (by rw [← q1]; exact upd_same) q2
    · cases h
  · cases h
def dcL1 (tg1 : Tgt) (ts1 : EvB) (kf vf : Ev) (p : Nat) (us : Lo) : List U → List UO → Rs Unit
  | [], h => .ok () h
  | x :: r, h => match tg1 x us with
    | none => .no
    | some us1 => match ts1 us1 h with
      | .ok true h1 => (match kf us1 h1 with
        | .ok ku h2 => (match vf us1 h2 with
          | .ok vu h3 => (match putP p ku vu h3 with
            | .ok _ h4 => dcL1 tg1 ts1 kf vf p us r h4
            | _ => .no)
          | _ => .no)
        | _ => .no)
      | .ok false h1 => dcL1 tg1 ts1 kf vf p us r h1
      | _ => .no
def dcL (tg : Tgt) (ts : EvB) (fi1 : EvI) (tg1 : Tgt) (ts1 : EvB) (kf vf : Ev) (vs1 : List Nat) (p : Nat) (us : Lo) : List U → List UO → Rs Unit
  | [], h => .ok () h
  | x :: r, h => match tg x us with
    | none => .no
    | some us1 => match ts us1 h with
      | .ok true h1 => (match fi1 us1 h1 with
        | .ok (.fix xs) h2 => (match dcL1 tg1 ts1 kf vf p (wipeU us1 vs1) xs h2 with
          | .ok _ h3 => dcL tg ts fi1 tg1 ts1 kf vf vs1 p us r h3
          | _ => .no)
        | _ => .no)
      | .ok false h1 => dcL tg ts fi1 tg1 ts1 kf vf vs1 p us r h1
      | _ => .no
/-- {k: v for .. for ..} -/
def eDc2 (fi : EvI) (tg : Tgt) (ts : EvB) (fi1 : EvI) (tg1 : Tgt) (ts1 : EvB) (kf vf : Ev) (vs vs1 : List Nat) : Ev := fun us h => (fi us h).bind fun s h1 => match s with
  | .fix xs => (match dcL tg ts fi1 tg1 ts1 kf vf vs1 h1.length (wipeU us vs) xs (h1 ++ [.dk []]) with | .ok _ h2 => .ok (.ref h1.length) h2 | _ => .no)
  | .dyn _ => .no
section
variable {G : Cfg} {W : WX} {tg tg1 : Tgt} {sl sl1 vs vs1 : List Nat} {ts ts1 : EvB} {fi fi1 : EvI} {kf vf : Ev} {us : Lo} {σ : L2.St} {Q : VK}
theorem dc_loop {w0 w1 : Wd} {xs : List U} {J : It} {D : Addr} {hEnd : List UO} (m0 : Sm G w0) (e01 : Ext w0 w1) (m1 : Sm G w1) (sl0 : SL G w1 us σ) (hJ : JR G w1 (.fix xs) J) (hD : w1.H D = none)
    (h0 : dcL tg ts fi1 tg1 ts1 kf vf vs1 w1.h.length (wipeU us vs) xs (w1.h ++ [.dk []]) = .ok () hEnd) (hsl : ∀ j ∈ sl, j ∈ vs) (hsl1 : ∀ j ∈ sl1, j ∈ vs1) (h : Pt G (R G) W σ w0 (.ok (.ref w1.h.length) hEnd) Q) :
    ∃ Wc : Nat → Nat → Hp → Prop, (∃ m, Wc 0 m (upd w1.H D (.dK []))) ∧ ∀ i m H, Wc i m H → (J.stop i H ∧ Q (.ref D) H) ∨ (J.go i H ∧ ∃ N0 : Hp → Prop, (∀ H', N0 H' → ∃ m', m' < m ∧ Wc (i + 1) m' H') ∧
      ∀ x H', J.yld i H x H' → tG G tg sl x (L2.wipe σ vs) H' fun σ2 H2 => L2.wipe σ2 vs = L2.wipe σ vs ∧ tT G ts W0 σ2 H2 fun b H3 => dcOut (tI G fi1 W0) (tG G tg1 sl1) (tT G ts1 W0) (tE G kf W0) (tE G vf W0) vs1 D N0 b σ2 H3) := by
  generalize hp : w1.h.length = p at h0 h
  obtain ⟨w2, b1, b2, b3, b4, b5⟩ := toTrackedO (o := .dk []) (Ext.newZ (o := .dK []) hD) (m1.newZ hD) (fun w'' le => .dk (vs := []) (by rw [le.H]; exact upd_same) .nil) hD (.inr rfl) (m1.free_r hD)
  have b1 : w2.h = w1.h ++ [.dk []] := b1
  have hr2 : w2.r[p]? = some D := by
    rw [← hp]
    cases b5 with
    | ref q => exact q
  refine ⟨fun i m H => ∃ w, w.H = H ∧ Ext w1 w ∧ Sm G w ∧ w.r[p]? = some D ∧ dcL tg ts fi1 tg1 ts1 kf vf vs1 p (wipeU us vs) (xs.drop i) w.h = .ok () hEnd ∧ m + i = xs.length, ⟨xs.length, w2, b2, b3, b4, hr2, by rw [b1]; exact h0, by omega⟩, ?_⟩
  rintro i m _ ⟨w, rfl, e1, mw, hr, hf, hm⟩
  have hj := hJ w e1 mw i
  have ha : (Src.fix xs).at i w.h = some xs[i]? := rfl
  rw [ha] at hj
  cases q : xs[i]? with
  | none =>
    rw [q] at hj
    rw [List.drop_eq_nil_of_le (List.getElem?_eq_none_iff.mp q)] at hf
    unfold dcL at hf
    cases hf
    exact .inl ⟨hj, h w _ rfl (e01.trans e1) mw (.ref hr)⟩
  | some u =>
    rw [q] at hj
    obtain ⟨go, yld⟩ := hj
    obtain ⟨hi, ei⟩ := List.getElem?_eq_some_iff.mp q
    rw [List.drop_eq_getElem_cons hi, ei] at hf
    unfold dcL at hf
    refine .inr ⟨go, fun H' => ∃ w, w.H = H' ∧ Ext w1 w ∧ Sm G w ∧ w.r[p]? = some D ∧ dcL tg ts fi1 tg1 ts1 kf vf vs1 p (wipeU us vs) (xs.drop (i + 1)) w.h = .ok () hEnd, fun H' ⟨w2, x1, x2, x3, x4, x5⟩ => ⟨m - 1, by omega, w2, x1, x2, x3, x4, x5, by omega⟩, fun x H' hy => ?_⟩
    obtain ⟨w2, rfl, eh, e2, m2, r2⟩ := yld x H' hy
    refine ⟨u, wipeU us vs, w2, rfl, m2, ((sl0.up m1 (e1.trans e2)).wipe vs), r2, ?_⟩
    split at hf
    · cases hf
    · rename_i us1 qt
      rw [qt]
      intro σ2 sl2 ag
      refine ⟨wipe_eq ag.1 ag.2 hsl, us1, w2, rfl, m2, sl2, ?_⟩
      rw [eh]
      split at hf
      · rename_i h1 q1
        rw [q1]
        rintro w3 b a e3 m3 rfl
        subst a
        refine ⟨(fun z => nomatch z), fun _ => ?_⟩
        refine ⟨us1, w3, rfl, m3, sl2.up m2 e3, ?_⟩
        split at hf
        · rename_i ys h2 q2
          rw [q2]
          rintro w4 J1 a e4 m4 hJ1
          subst a
          have e14 : Ext w1 w4 := e1.trans (e2.trans (e3.trans e4))
          have hr4 : w4.r[p]? = some D := (e2.trans (e3.trans e4)).get hr
          have sl4 : SL G w4 us1 σ2 := (sl2.up m2 e3).up m3 e4
          split at hf
          · rename_i h3 q3
            refine ⟨fun j k H => ∃ w5, w5.H = H ∧ Ext w4 w5 ∧ Sm G w5 ∧ dcL1 tg1 ts1 kf vf p (wipeU us1 vs1) (ys.drop j) w5.h = .ok () h3 ∧ k + j = ys.length, ⟨ys.length, w4, rfl, Ext.refl _, m4, q3, by omega⟩, ?_⟩
            rintro j k _ ⟨w5, rfl, e5, m5, hf5, hk⟩
            have hj5 := hJ1 w5 e5 m5 j
            have ha5 : (Src.fix ys).at j w5.h = some ys[j]? := rfl
            rw [ha5] at hj5
            cases q5 : ys[j]? with
            | none =>
              rw [q5] at hj5
              rw [List.drop_eq_nil_of_le (List.getElem?_eq_none_iff.mp q5)] at hf5
              unfold dcL1 at hf5
              cases hf5
              exact .inl ⟨hj5, w5, rfl, e14.trans e5, m5, e5.get hr4, hf⟩
            | some u5 =>
              rw [q5] at hj5
              obtain ⟨go5, yld5⟩ := hj5
              obtain ⟨hi5, ei5⟩ := List.getElem?_eq_some_iff.mp q5
              rw [List.drop_eq_getElem_cons hi5, ei5] at hf5
              unfold dcL1 at hf5
              refine .inr ⟨go5, fun H' => ∃ w5, w5.H = H' ∧ Ext w4 w5 ∧ Sm G w5 ∧ dcL1 tg1 ts1 kf vf p (wipeU us1 vs1) (ys.drop (j + 1)) w5.h = .ok () h3, fun H' ⟨w6, x1, x2, x3, x4⟩ => ⟨k - 1, by omega, w6, x1, x2, x3, x4, by omega⟩, fun x H' hy => ?_⟩
              obtain ⟨w6, rfl, eh6, e6, m6, r6⟩ := yld5 x H' hy
              refine ⟨u5, wipeU us1 vs1, w6, rfl, m6, (sl4.up m4 (e5.trans e6)).wipe vs1, r6, ?_⟩
              split at hf5
              · cases hf5
              · rename_i us6 qt6
                rw [qt6]
                intro σ3 sl7 ag7
                refine ⟨wipe_eq ag7.1 ag7.2 (fun j hj => hsl1 j hj), us6, w6, rfl, m6, sl7, ?_⟩
                rw [eh6]
                split at hf5
                · rename_i h7 q7
                  rw [q7]
                  rintro w7 b a e7 m7 rfl
                  subst a
                  refine ⟨(fun z => nomatch z), fun _ => ?_⟩
                  refine ⟨us6, w7, rfl, m7, sl7.up m6 e7, ?_⟩
                  split at hf5
                  · rename_i ku h8 q8
                    rw [q8]
                    rintro w8 vk a e8 m8 r8
                    subst a
                    refine ⟨us6, w8, rfl, m8, (sl7.up m6 e7).up m7 e8, ?_⟩
                    split at hf5
                    · rename_i vu h9 q9
                      rw [q9]
                      rintro w9 vv a e9 m9 r9
                      subst a
                      have e49 : Ext w4 w9 := ((e5.trans e6).trans e7).trans (e8.trans e9)
                      split at hf5
                      · rename_i h10 q10
                        obtain ⟨kvs, ky, x1, x2, x3, w10, x4, x5, x6, x7⟩ := putP_of m9 (e49.get hr4) (r8.up m8 e9) r9 q10
                        exact ⟨kvs, ky, x1, x2, x3, w10, x4, e49.trans x6, x7, by rw [x5]; exact hf5⟩
                      · cases hf5
                    · cases hf5
                  · cases hf5
                · rename_i h7 q7
                  rw [q7]
                  rintro w7 b a e7 m7 rfl
                  subst a
                  exact ⟨(fun _ => ⟨w7, rfl, (e5.trans e6).trans e7, m7, hf5⟩), fun z => nomatch z⟩
                · cases hf5
          · cases hf
        · cases hf
      · rename_i h1 q1
        rw [q1]
        rintro w3 b a e3 m3 rfl
        subst a
        exact ⟨(fun _ => ⟨w3, rfl, e1.trans (e2.trans e3), m3, (e2.trans e3).get hr, hf⟩), fun z => nomatch z⟩
      · cases hf
theorem tDc2_of {H : Hp} (hsl : ∀ j ∈ sl, j ∈ vs) (hsl1 : ∀ j ∈ sl1, j ∈ vs1) (h : tE G (eDc2 fi tg ts fi1 tg1 ts1 kf vf vs vs1) W σ H Q) : tDc2 (tI G fi W) (tG G tg sl) (tT G ts W0) (tI G fi1 W0) (tG G tg1 sl1) (tT G ts1 W0) (tE G kf W0) (tE G vf W0) vs vs1 σ H Q := by
  obtain ⟨us, w, rfl, m, sl0, h⟩ := h
  refine ⟨us, w, rfl, m, sl0, (Pt.bind (Rel := JR G) h).imp ?_⟩
  rintro J H1 ⟨w1, src, rfl, e1, m1, hJ, h1⟩
  intro D hD
  cases src with
  | dyn it => exact h1.elim
  | fix xs =>
    dsimp only at h1
    split at h1
    · rename_i hEnd q
      exact dc_loop (w0 := w1) m1 (Ext.refl _) m1 (sl0.up m e1) hJ hD q hsl hsl1 h1
    · exact h1.elim
end
/-- y = {k: v for .. for ..} -/
theorem s_setDc2 {X : Cx} {G : Cfg} {W : WX} {tg tg1 : Tgt} {sl sl1 vs1 : List Nat} {ts ts1 : EvB} {fi fi1 : EvI} {kf vf : Ev} {i : Nat} {y : Str} {py spos : Pos} {kx vx t0 i0 t1 i1 : Expr} {ifs ifs1 : List Expr} {scope : Scope} {own : List (Str × Nat)} {pos : Pos} (hc : X.calm = true) (hN : X.N.Nodup) (hy : X.N[i]? = some y) (hyl : X.env.scope.names.lookup y = some .local)
    (hsw : swapsWith (.DictComp kx vx [⟨t0, i0, ifs, 0⟩, ⟨t1, i1, ifs1, 0⟩] scope pos) (some (.Name y py)) spos.line X.env = pure true) (hi : PI X t0 i0 (tI G fi W)) (ok : BlkOk X.N X.env.scope scope own) (hv : ∀ i ∈ vs1, i ∈ own.map (·.2))
    (hb : ∀ (s : Shared) (H : Hp) (C : Addr) (cl : List (Str × Addr)) (fp : List Addr), let Y := X.blk s H scope (compEnvC scope cl C X.env) fp; PG Y t0 (tG G tg sl) ∧ PTs Y ifs (tT G ts W0) ∧ PI Y t1 i1 (tI G fi1 W0) ∧ PG Y t1 (tG G tg1 sl1) ∧ PTs Y ifs1 (tT G ts1 W0) ∧ PE Y kx (tE G kf W0) ∧ PE Y vx (tE G vf W0))
    (hsl : ∀ j ∈ sl, j ∈ own.map (·.2)) (hsl1 : ∀ j ∈ sl1, j ∈ vs1) (hs : ∀ x, foldedSetIterable i0 X.env x = pure x := by intro _; rfl) (hs1 : ∀ env x, foldedSetIterable i1 env x = pure x := by intro _ _; rfl) :
    PS X (.Assign [.Name y py] (.DictComp kx vx [⟨t0, i0, ifs, 0⟩, ⟨t1, i1, ifs1, 0⟩] scope pos) spos) (tS G (gSet i (eDc2 fi tg ts fi1 tg1 ts1 kf vf (own.map (·.2)) vs1)) W) :=
  PS.imp (ps_setDc2 hc hN hy hyl hsw hi ok hv hb hs hs1) fun _ _ _ h => tDc2_of hsl hsl1 (set_of h)
/-- d[k] -/
def kDget (x y : U) (h : List UO) : Rs U := match x, keyU y with
  | .ref p, some k => (match h[p]? with | some (.dk kvs) => (match valU kvs k with | some u => .ok u h | none => .no) | _ => .no)
  | _, _ => .no
theorem f_dget {X : Cx} {G : Cfg} {W : WX} {kk : Nat} {a b : Expr} {fa fb : Ev} {pos : Pos} (hr : Room kk X.A) (ha : PE X a (tE G fa W)) (hb : PE X b (tE G fb W)) (hs : NoSl b := by exact fun _ _ => rfl) : PE X (.Subscript a b pos) (tE G (e2 kDget fa fb) W) :=
  PE.imp (pe_dget (hu_of hr) ha hb hs) fun σ _ Q ⟨us, w, e, m, sl, h⟩ => by
    subst e
    refine ⟨us, w, rfl, m, sl, (Pt.bind (Rel := R G) h).imp ?_⟩
    rintro x H1 ⟨w1, u, rfl, e1, m1, r1, h1⟩
    refine ⟨us, w1, rfl, m1, sl.up m e1, (Pt.bind (Rel := R G) h1).imp ?_⟩
    rintro y H2 ⟨w2, v, rfl, e2, m2, r2, h2⟩
    have r1 := r1.up m1 e2
    unfold kDget at h2
    split at h2
    · rename_i k hk _
      cases r1 with
      | @ref _ d hr =>
        split at h2
        · rename_i kvs q
          split at h2
          · rename_i u q2
            cases m2.obj _ _ _ hr q with
            | @dk _ ws hv l =>
              obtain ⟨vv, q3, rv⟩ := (RK.of l).val q2
              refine ⟨d, vv, rfl, .inl ⟨_, k, .inl hv, keyU_of r2 hk, q3.symm⟩, h2.val m2 rv⟩
          · exact h2.elim
        · exact h2.elim
    · exact h2.elim
end Fn
/-! list comprehensions with two for clauses; sorted(.., reverse=..) -/
namespace Fn
open PySem L2 PySem.Spec PyProof.Rows
def appP (p : Nat) (u : U) (h : List UO) : Rs Unit := match h[p]? with
  | some (.lst acc) => (match szOk (acc.length + 1) with | true => .ok () (h.set p (.lst (acc ++ [u]))) | false => .no)
  | _ => .no
theorem appP_of {G : Cfg} {w : Wd} {p : Nat} {D : Addr} {u : U} {v : V} {h' : List UO} (m : Sm G w) (hr : w.r[p]? = some D) (r : R G w u v) (h : appP p u w.h = .ok () h') :
    ∃ acc, w.H D = some (.lst acc) ∧ acc.length < sizeLine ∧ ∃ w' : Wd, w'.H = upd w.H D (.lst (acc ++ [v])) ∧ w'.h = h' ∧ Ext w w' ∧ Sm G w' := by
  unfold appP at h
  split at h
  · rename_i acc hp
    split at h
    · rename_i hz
      cases h
      cases m.obj _ _ _ hr hp with
      | @lst _ ws hv l =>
        obtain ⟨ex, sm⟩ := putL (vs := ws) m hr hp (l.append (.one r))
        refine ⟨ws, hv, ?_, _, rfl, rfl, ex, sm⟩
        have := szOk_le hz
        rw [← l.length]; omega
    · cases h
  · cases h
def lcI (tg1 : Tgt) (ts1 : EvB) (el : Ev) (p : Nat) (us : Lo) : List U → List UO → Rs Unit
  | [], h => .ok () h
  | x :: r, h => match tg1 x us with
    | none => .no
    | some us1 => match ts1 us1 h with
      | .ok true h1 => (match el us1 h1 with
        | .ok u h2 => (match appP p u h2 with
          | .ok _ h4 => lcI tg1 ts1 el p us r h4
          | _ => .no)
        | _ => .no)
      | .ok false h1 => lcI tg1 ts1 el p us r h1
      | _ => .no
def lcO (tg : Tgt) (ts : EvB) (fi1 : EvI) (tg1 : Tgt) (ts1 : EvB) (el : Ev) (vs1 : List Nat) (p : Nat) (us : Lo) : List U → List UO → Rs Unit
  | [], h => .ok () h
  | x :: r, h => match tg x us with
    | none => .no
    | some us1 => match ts us1 h with
      | .ok true h1 => (match fi1 us1 h1 with
        | .ok (.fix xs) h2 => (match lcI tg1 ts1 el p (wipeU us1 vs1) xs h2 with
          | .ok _ h3 => lcO tg ts fi1 tg1 ts1 el vs1 p us r h3
          | _ => .no)
        | _ => .no)
      | .ok false h1 => lcO tg ts fi1 tg1 ts1 el vs1 p us r h1
      | _ => .no
/-- [x for .. for ..], tracked -/
def eLc2 (fi : EvI) (tg : Tgt) (ts : EvB) (fi1 : EvI) (tg1 : Tgt) (ts1 : EvB) (el : Ev) (vs vs1 : List Nat) : Ev := fun us h => (fi us h).bind fun s h1 => match s with
  | .fix xs => (match lcO tg ts fi1 tg1 ts1 el vs1 h1.length (wipeU us vs) xs (h1 ++ [.lst []]) with | .ok _ h2 => .ok (.ref h1.length) h2 | _ => .no)
  | .dyn _ => .no
/-- the inner loop, as HandS asks it -/
def lcIn (g1 : TG) (tt1 : TT) (te : TE) (vs1 : List Nat) (D : Addr) (N0 : Hp → Prop) (σ2 : L2.St) (J1 : It) (H4 : Hp) : Prop := ∃ W1 : Nat → Nat → Hp → Prop, (∃ m, W1 0 m H4) ∧
  ∀ j k H, W1 j k H → (J1.stop j H ∧ N0 H) ∨ (J1.go j H ∧ ∃ N1 : Hp → Prop, (∀ H', N1 H' → ∃ k', k' < k ∧ W1 (j + 1) k' H') ∧
    ∀ x H', J1.yld j H x H' → g1 x (L2.wipe σ2 vs1) H' fun σ3 H5 => L2.wipe σ3 vs1 = L2.wipe σ2 vs1 ∧ tt1 σ3 H5 fun b H6 =>
      if b = true then te σ3 H6 fun y H7 => ∃ acc, H7 D = some (.lst acc) ∧ acc.length < sizeLine ∧ N1 (upd H7 D (.lst (acc ++ [y]))) else N1 H6)
section
variable {G : Cfg} {W : WX} {tg tg1 : Tgt} {sl sl1 vs vs1 : List Nat} {ts ts1 : EvB} {fi fi1 : EvI} {kf : Ev} {us : Lo} {σ : L2.St} {Q : VK}
theorem lc2_loop {w0 w1 : Wd} {xs : List U} {J : It} {D : Addr} {hEnd : List UO} (m0 : Sm G w0) (e01 : Ext w0 w1) (m1 : Sm G w1) (sl0 : SL G w1 us σ) (hJ : JR G w1 (.fix xs) J) (hD : w1.H D = none)
    (h0 : lcO tg ts fi1 tg1 ts1 kf vs1 w1.h.length (wipeU us vs) xs (w1.h ++ [.lst []]) = .ok () hEnd) (hsl : ∀ j ∈ sl, j ∈ vs) (hsl1 : ∀ j ∈ sl1, j ∈ vs1) (h : Pt G (R G) W σ w0 (.ok (.ref w1.h.length) hEnd) Q) :
    ∃ Wc : Nat → Nat → Hp → Prop, (∃ m, Wc 0 m (upd w1.H D (.lst []))) ∧ ∀ i m H, Wc i m H → (J.stop i H ∧ Q (.ref D) H) ∨ (J.go i H ∧ ∃ N0 : Hp → Prop, (∀ H', N0 H' → ∃ m', m' < m ∧ Wc (i + 1) m' H') ∧
      ∀ x H', J.yld i H x H' → tG G tg sl x (L2.wipe σ vs) H' fun σ2 H2 => L2.wipe σ2 vs = L2.wipe σ vs ∧ tT G ts W0 σ2 H2 fun b H3 => if b = true then tI G fi1 W0 σ2 H3 (lcIn (tG G tg1 sl1) (tT G ts1 W0) (tE G kf W0) vs1 D N0 σ2) else N0 H3) := by
  generalize hp : w1.h.length = p at h0 h
  obtain ⟨w2, b1, b2, b3, b4, b5⟩ := toTrackedO (o := .lst []) (Ext.newZ (o := .lst []) hD) (m1.newZ hD) (fun w'' le => .lst (vs := []) (by rw [le.H]; exact upd_same) .nil) hD (.inr rfl) (m1.free_r hD)
  have b1 : w2.h = w1.h ++ [.lst []] := b1
  have hr2 : w2.r[p]? = some D := by
    rw [← hp]
    cases b5 with
    | ref q => exact q
  refine ⟨fun i m H => ∃ w, w.H = H ∧ Ext w1 w ∧ Sm G w ∧ w.r[p]? = some D ∧ lcO tg ts fi1 tg1 ts1 kf vs1 p (wipeU us vs) (xs.drop i) w.h = .ok () hEnd ∧ m + i = xs.length, ⟨xs.length, w2, b2, b3, b4, hr2, by rw [b1]; exact h0, by omega⟩, ?_⟩
  rintro i m _ ⟨w, rfl, e1, mw, hr, hf, hm⟩
  have hj := hJ w e1 mw i
  have ha : (Src.fix xs).at i w.h = some xs[i]? := rfl
  rw [ha] at hj
  cases q : xs[i]? with
  | none =>
    rw [q] at hj
    rw [List.drop_eq_nil_of_le (List.getElem?_eq_none_iff.mp q)] at hf
    unfold lcO at hf
    cases hf
    exact .inl ⟨hj, h w _ rfl (e01.trans e1) mw (.ref hr)⟩
  | some u =>
    rw [q] at hj
    obtain ⟨go, yld⟩ := hj
    obtain ⟨hi, ei⟩ := List.getElem?_eq_some_iff.mp q
    rw [List.drop_eq_getElem_cons hi, ei] at hf
    unfold lcO at hf
    refine .inr ⟨go, fun H' => ∃ w, w.H = H' ∧ Ext w1 w ∧ Sm G w ∧ w.r[p]? = some D ∧ lcO tg ts fi1 tg1 ts1 kf vs1 p (wipeU us vs) (xs.drop (i + 1)) w.h = .ok () hEnd, fun H' ⟨w2, x1, x2, x3, x4, x5⟩ => ⟨m - 1, by omega, w2, x1, x2, x3, x4, x5, by omega⟩, fun x H' hy => ?_⟩
    obtain ⟨w2, rfl, eh, e2, m2, r2⟩ := yld x H' hy
    refine ⟨u, wipeU us vs, w2, rfl, m2, ((sl0.up m1 (e1.trans e2)).wipe vs), r2, ?_⟩
    split at hf
    · cases hf
    · rename_i us1 qt
      rw [qt]
      intro σ2 sl2 ag
      refine ⟨wipe_eq ag.1 ag.2 hsl, us1, w2, rfl, m2, sl2, ?_⟩
      rw [eh]
      split at hf
      · rename_i h1 q1
        rw [q1]
        rintro w3 b a e3 m3 rfl
        subst a
        rw [if_pos rfl]
        refine ⟨us1, w3, rfl, m3, sl2.up m2 e3, ?_⟩
        split at hf
        · rename_i ys h2 q2
          rw [q2]
          rintro w4 J1 a e4 m4 hJ1
          subst a
          have e14 : Ext w1 w4 := e1.trans (e2.trans (e3.trans e4))
          have hr4 : w4.r[p]? = some D := (e2.trans (e3.trans e4)).get hr
          have sl4 : SL G w4 us1 σ2 := (sl2.up m2 e3).up m3 e4
          split at hf
          · rename_i h3 q3
            refine ⟨fun j k H => ∃ w5, w5.H = H ∧ Ext w4 w5 ∧ Sm G w5 ∧ lcI tg1 ts1 kf p (wipeU us1 vs1) (ys.drop j) w5.h = .ok () h3 ∧ k + j = ys.length, ⟨ys.length, w4, rfl, Ext.refl _, m4, q3, by omega⟩, ?_⟩
            rintro j k _ ⟨w5, rfl, e5, m5, hf5, hk⟩
            have hj5 := hJ1 w5 e5 m5 j
            have ha5 : (Src.fix ys).at j w5.h = some ys[j]? := rfl
            rw [ha5] at hj5
            cases q5 : ys[j]? with
            | none =>
              rw [q5] at hj5
              rw [List.drop_eq_nil_of_le (List.getElem?_eq_none_iff.mp q5)] at hf5
              unfold lcI at hf5
              cases hf5
              exact .inl ⟨hj5, w5, rfl, e14.trans e5, m5, e5.get hr4, hf⟩
            | some u5 =>
              rw [q5] at hj5
              obtain ⟨go5, yld5⟩ := hj5
              obtain ⟨hi5, ei5⟩ := List.getElem?_eq_some_iff.mp q5
              rw [List.drop_eq_getElem_cons hi5, ei5] at hf5
              unfold lcI at hf5
              refine .inr ⟨go5, fun H' => ∃ w5, w5.H = H' ∧ Ext w4 w5 ∧ Sm G w5 ∧ lcI tg1 ts1 kf p (wipeU us1 vs1) (ys.drop (j + 1)) w5.h = .ok () h3, fun H' ⟨w6, x1, x2, x3, x4⟩ => ⟨k - 1, by omega, w6, x1, x2, x3, x4, by omega⟩, fun x H' hy => ?_⟩
              obtain ⟨w6, rfl, eh6, e6, m6, r6⟩ := yld5 x H' hy
              refine ⟨u5, wipeU us1 vs1, w6, rfl, m6, (sl4.up m4 (e5.trans e6)).wipe vs1, r6, ?_⟩
              split at hf5
              · cases hf5
              · rename_i us6 qt6
                rw [qt6]
                intro σ3 sl7 ag7
                refine ⟨wipe_eq ag7.1 ag7.2 (fun j hj => hsl1 j hj), us6, w6, rfl, m6, sl7, ?_⟩
                rw [eh6]
                split at hf5
                · rename_i h7 q7
                  rw [q7]
                  rintro w7 b a e7 m7 rfl
                  subst a
                  rw [if_pos rfl]
                  refine ⟨us6, w7, rfl, m7, sl7.up m6 e7, ?_⟩
                  split at hf5
                  · rename_i ku h8 q8
                    rw [q8]
                    rintro w8 vk a e8 m8 r8
                    subst a
                    have e48 : Ext w4 w8 := ((e5.trans e6).trans e7).trans e8
                    split at hf5
                    · rename_i h10 q10
                      obtain ⟨acc, x1, x2, w10, x4, x5, x6, x7⟩ := appP_of m8 (e48.get hr4) r8 q10
                      exact ⟨acc, x1, x2, w10, x4, e48.trans x6, x7, by rw [x5]; exact hf5⟩
                    · cases hf5
                  · cases hf5
                · rename_i h7 q7
                  rw [q7]
                  rintro w7 b a e7 m7 rfl
                  subst a
                  rw [if_neg (by decide)]
                  exact ⟨w7, rfl, (e5.trans e6).trans e7, m7, hf5⟩
                · cases hf5
          · cases hf
        · cases hf
      · rename_i h1 q1
        rw [q1]
        rintro w3 b a e3 m3 rfl
        subst a
        rw [if_neg (by decide)]
        exact ⟨w3, rfl, e1.trans (e2.trans e3), m3, (e2.trans e3).get hr, hf⟩
      · cases hf
theorem tLc2_of {H : Hp} (hsl : ∀ j ∈ sl, j ∈ vs) (hsl1 : ∀ j ∈ sl1, j ∈ vs1) (h : tE G (eLc2 fi tg ts fi1 tg1 ts1 kf vs vs1) W σ H Q) : tLc2 (tI G fi W) (tG G tg sl) (tT G ts W0) (tI G fi1 W0) (tG G tg1 sl1) (tT G ts1 W0) (tE G kf W0) vs vs1 σ H Q := by
  obtain ⟨us, w, rfl, m, sl0, h⟩ := h
  refine ⟨us, w, rfl, m, sl0, (Pt.bind (Rel := JR G) h).imp ?_⟩
  rintro J H1 ⟨w1, src, rfl, e1, m1, hJ, h1⟩
  intro D hD
  cases src with
  | dyn it => exact h1.elim
  | fix xs =>
    dsimp only at h1
    split at h1
    · rename_i hEnd q
      exact lc2_loop (w0 := w1) m1 (Ext.refl _) m1 (sl0.up m e1) hJ hD q hsl hsl1 h1
    · exact h1.elim
end
section
variable {X : Cx} {G : Cfg} {W : WX} {tg tg1 : Tgt} {sl sl1 vs1 : List Nat} {ts ts1 : EvB} {fi fi1 : EvI} {fe : Ev} {elt t0 i0 t1 i1 : Expr} {ifs ifs1 : List Expr} {scope : Scope} {own : List (Str × Nat)} {pos : Pos}
theorem f_lc2 (hc : X.calm = true) (hN : X.N.Nodup) (hi : PI X t0 i0 (tI G fi W)) (ok : BlkOk X.N X.env.scope scope own) (hv : ∀ i ∈ vs1, i ∈ own.map (·.2))
    (hb : ∀ (s : Shared) (H : Hp) (C : Addr) (cl : List (Str × Addr)) (fp : List Addr), let Y := X.blk s H scope (compEnvC scope cl C X.env) fp; PG Y t0 (tG G tg sl) ∧ PTs Y ifs (tT G ts W0) ∧ PI Y t1 i1 (tI G fi1 W0) ∧ PG Y t1 (tG G tg1 sl1) ∧ PTs Y ifs1 (tT G ts1 W0) ∧ PE Y elt (tE G fe W0))
    (hsl : ∀ j ∈ sl, j ∈ own.map (·.2)) (hsl1 : ∀ j ∈ sl1, j ∈ vs1) (hs : ∀ x, foldedSetIterable i0 X.env x = pure x := by intro _; rfl) (hs1 : ∀ env x, foldedSetIterable i1 env x = pure x := by intro _ _; rfl) :
    PE X (.ListComp elt [⟨t0, i0, ifs, 0⟩, ⟨t1, i1, ifs1, 0⟩] scope pos) (tE G (eLc2 fi tg ts fi1 tg1 ts1 fe (own.map (·.2)) vs1) W) :=
  PE.imp (pe_lc2 hc hN hi ok hv (fun s H C cl fp => (hb s H C cl fp).1) (fun s H C cl fp => (hb s H C cl fp).2.1) (fun s H C cl fp => (hb s H C cl fp).2.2.1) (fun s H C cl fp => (hb s H C cl fp).2.2.2.1) (fun s H C cl fp => (hb s H C cl fp).2.2.2.2.1) (fun s H C cl fp => (hb s H C cl fp).2.2.2.2.2) hs hs1) fun _ _ _ h => tLc2_of hsl hsl1 h
theorem s_setLc2 {i : Nat} {y : Str} {py spos : Pos} (hc : X.calm = true) (hN : X.N.Nodup) (hy : X.N[i]? = some y) (hyl : X.env.scope.names.lookup y = some .local)
    (hsw : swapsWith (.ListComp elt [⟨t0, i0, ifs, 0⟩, ⟨t1, i1, ifs1, 0⟩] scope pos) (some (.Name y py)) spos.line X.env = pure true) (hi : PI X t0 i0 (tI G fi W)) (ok : BlkOk X.N X.env.scope scope own) (hv : ∀ i ∈ vs1, i ∈ own.map (·.2))
    (hb : ∀ (s : Shared) (H : Hp) (C : Addr) (cl : List (Str × Addr)) (fp : List Addr), let Y := X.blk s H scope (compEnvC scope cl C X.env) fp; PG Y t0 (tG G tg sl) ∧ PTs Y ifs (tT G ts W0) ∧ PI Y t1 i1 (tI G fi1 W0) ∧ PG Y t1 (tG G tg1 sl1) ∧ PTs Y ifs1 (tT G ts1 W0) ∧ PE Y elt (tE G fe W0))
    (hsl : ∀ j ∈ sl, j ∈ own.map (·.2)) (hsl1 : ∀ j ∈ sl1, j ∈ vs1) (hs : ∀ x, foldedSetIterable i0 X.env x = pure x := by intro _; rfl) (hs1 : ∀ env x, foldedSetIterable i1 env x = pure x := by intro _ _; rfl) :
    PS X (.Assign [.Name y py] (.ListComp elt [⟨t0, i0, ifs, 0⟩, ⟨t1, i1, ifs1, 0⟩] scope pos) spos) (tS G (gSet i (eLc2 fi tg ts fi1 tg1 ts1 fe (own.map (·.2)) vs1)) W) :=
  PS.imp (ps_setLc2 hc hN hy hyl hsw hi ok hv (fun s H C cl fp => (hb s H C cl fp).1) (fun s H C cl fp => (hb s H C cl fp).2.1) (fun s H C cl fp => (hb s H C cl fp).2.2.1) (fun s H C cl fp => (hb s H C cl fp).2.2.2.1) (fun s H C cl fp => (hb s H C cl fp).2.2.2.2.1) (fun s H C cl fp => (hb s H C cl fp).2.2.2.2.2) hs hs1) fun _ _ _ h => tLc2_of hsl hsl1 (set_of h)
end
/-! ### sorted(xs, reverse=True) -/
def kSortedR (x d : U) (h : List UO) : Rs U := match d with
  | .bl true => (match lstU h x with | some xs => (match toInts xs with | some ns => .ok (.fl ((sortI ns).reverse.map .int)) h | none => .no) | none => .no)
  | _ => .no
theorem f_sortedRev {X : Cx} {G : Cfg} {W : WX} {a b : Expr} {fa fb : Ev} {pos p kp : Pos} (hK : X.K = G.K) (hg : Gl X "sorted") (hm : X.mg "sorted" = none) (ha : PE X a (tE G fa W)) (hb : PE X b (tE G fb W))
    (na : starEach [a] X.env = (false, eval a X.env) :: starEach [] X.env := by rfl) (he : backTo pos (starEach [a] X.env) = (false, eval a X.env) :: backTo pos (starEach [] X.env) := by rfl) (hpl : (backTo pos (starEach [a] X.env)).any (·.1) = false := by rfl)
    (hall : (backToKw pos (keywordEach [⟨some "reverse", b, kp⟩] X.env)).all (·.1.isSome) = true := by rfl) (hnone : (backToKw pos (keywordEach [⟨some "reverse", b, kp⟩] X.env)).any (·.1.isNone) = false := by rfl) (hks : (backToKw pos (keywordEach [⟨some "reverse", b, kp⟩] X.env)).filterMap (·.1) = [Str.ofString "reverse"] := by rfl) :
    PE X (.Call (.Name "sorted" p) [a] [⟨some "reverse", b, kp⟩] pos) (tE G (e2 kSortedR fa fb) W) :=
  PE.imp (pe_callBK (r := rSortedKw X.K true [.bl true]) cr_sortedRev hg hm (by decide +kernel) (pa_cons ha pa_nil na) (pk_cons hb pk_nil) (he := he) (hpl := hpl) (hall := hall) (hnone := hnone) (hks := hks)) fun σ H Q h => by
    refine two_of (r := fun x y H Q => rSortedKw X.K true [.bl true] [x] [y] H Q) ?_ h
    intro w σ W x y va vb Q m rx ry h
    unfold kSortedR at h
    split at h
    · cases ry
      split at h
      · rename_i xs q
        split at h
        · rename_i ns q2
          obtain ⟨p, vs, rfl, hs, l⟩ := lstU_of m rx q
          obtain ⟨rfl, _⟩ := toInts_of l q2
          refine ⟨p, ns, rfl, rfl, by rw [hK]; exact hs, fun ns' p hp ho hn => ?_⟩
          have e : ns' = (sortI ns).reverse := sortI_rev hp ho
          subst e
          exact h.newF m RL.ints hn
        · exact h.elim
      · exact h.elim
    · exact h.elim
end Fn
/-! t[::-1] of a tuple, tuple(reversed(xs)), list(reversed(xs)) -/
namespace Fn
open PySem L2 PySem.Spec PyProof.Rows
section
variable {prog : Program} {w : World} {A : Around} {E : Value → Shared → Prop} {s : Shared}
theorem adjust_back (n : Nat) : Builtin.Slice.sliceAdjust none none (-1) (n : Int) = ((n : Int) - 1, -1) := by
  unfold Builtin.Slice.sliceAdjust
  simp
theorem places_back (n : Nat) : Builtin.Slice.slicePlaces ((n : Int) - 1) (-1) (-1) = n := by
  unfold Builtin.Slice.slicePlaces
  have h1 : ¬ ((-1 : Int) > 0) := by omega
  simp only [h1, if_false]
  split <;> simp <;> omega
theorem fm_congr {α β : Type} {f g : α → Option β} : ∀ l : List α, (∀ k ∈ l, f k = g k) → l.filterMap f = l.filterMap g
  | [], _ => rfl
  | x :: r, h => by rw [List.filterMap_cons, List.filterMap_cons, h x List.mem_cons_self, fm_congr r fun k hk => h k (List.mem_cons_of_mem _ hk)]
theorem pick_back (xs : Array Value) : ((List.range xs.size).filterMap fun (k : Nat) => xs[(((xs.size : Int) - 1) + (k : Int) * (-1)).toNat]?).toArray = xs.toList.reverse.toArray := by
  congr 1
  have key : ∀ l : List Nat, (∀ k ∈ l, k < xs.size) → (l.filterMap fun (k : Nat) => xs[(((xs.size : Int) - 1) + (k : Int) * (-1)).toNat]?) = l.filterMap fun k => xs.toList.reverse[k]? := fun l hl => by
    refine fm_congr l fun k hk => ?_
    have hk := hl k hk
    have e : (((xs.size : Int) - 1) + (k : Int) * (-1)).toNat = xs.size - 1 - k := by omega
    rw [e, List.getElem?_reverse (by rw [Array.length_toList]; exact hk), Array.length_toList, Array.getElem?_toList]
  rw [key _ fun k hk => List.mem_range.mp hk]
  have all : ∀ l : List Value, ((List.range l.length).filterMap fun k => l[k]?) = l := fun l => by
    induction l with
    | nil => rfl
    | cons x r ih =>
      rw [List.length_cons, List.range_succ_eq_map, List.filterMap_cons]
      simp only [List.getElem?_cons_zero]
      rw [List.filterMap_map]
      congr 1
  have hl : xs.size = xs.toList.reverse.length := by rw [List.length_reverse, Array.length_toList]
  rw [hl]
  exact all _
theorem getItem_tuple_back {t sl : Addr} {items : Array Value} {vs : Value} {Q : Value → Shared → Prop} (ht : IsTup s.heap t items) (hs : s.heap.IsSliceOf sl .none .none vs) (ps : IsPart vs (some (-1)))
    (h : Q (.ref s.heap.objs.size) { s with heap := s.heap.push { cls := .type "tuple", data := .seq items.toList.reverse.toArray } }) (hsz : items.size ≤ sizeLine) : wpAny (model prog w) A (getItem (.ref t) (.ref sl)) Q E s := by
  have hz : sizeOk (.seq items.toList.reverse.toArray) := by
    show items.toList.reverse.toArray.size ≤ sizeLine
    rw [List.size_toArray, List.length_reverse, Array.length_toList]
    exact hsz
  obtain ⟨os, hos, hcs, hds⟩ := id hs
  have hT : s.TypeIs (.ref sl) "slice" := ⟨os, hos, hcs⟩
  unfold getItem
  try with_reducible refine wpAny_holding ?_
  first | refine wpAny_bind (wpAny_pure ?_) | skip
  refine wpAny_bind (wpAny_sequenceKey ht.typeIs (by decide) (wpAny_bind (wpAny_callSpecial?_slot (name := Str.ofString "__getitem__") ht.typeIs PyProof.Rows.slot_tuple_getitem (wpAny_call_entry PyProof.Rows.slot_tuple_getitem ht.typeIs entry_tuple_getitem ?_ (args_tuple_getitem _ _)))))
  show wpAny _ _ (Builtin.Tuple.tupleItemsOf (.ref t) >>= _) _ _ s
  refine wpAny_bind (tupleItemsOf_ ht (wpAny_bind (wpAny_typeOf hT ?_)))
  rw [if_pos (by decide)]
  have app : ∀ {A' : Around} {E : Value → Shared → Prop} {Q' : Int × Int × Nat → Shared → Prop}, Q' ((items.size : Int) - 1, -1, items.size) s → wpAny (model prog w) A' (Builtin.Slice.sliceApplied (.ref sl) (pure (items.size : Int))) Q' E s := fun {A' E Q'} q => by
    unfold Builtin.Slice.sliceApplied Builtin.Slice.sliceFields
    refine wpAny_bind (wpAny_bind (wpAny_field hos hds (x := Value.none) rfl (wpAny_bind (wpAny_field hos hds (x := Value.none) rfl (wpAny_bind (wpAny_field hos hds (x := vs) rfl (wpAny_pure ?_)))))))
    refine wpAny_bind (HT.slicePart_ ps ?_)
    show wpAny _ _ (if ((-1 : Int) == 0) = true then _ else _) _ _ s
    rw [if_neg (by decide)]
    refine wpAny_bind (HT.slicePart_ .none (wpAny_bind (HT.slicePart_ .none (wpAny_bind (wpAny_pure ?_)))))
    show wpAny _ _ (match Builtin.Slice.sliceAdjust none none (-1) (items.size : Int) with | (lo, hi) => pure (lo, (-1 : Int), Builtin.Slice.slicePlaces lo hi (-1))) _ _ s
    rw [adjust_back]
    show wpAny _ _ (pure ((items.size : Int) - 1, (-1 : Int), Builtin.Slice.slicePlaces ((items.size : Int) - 1) (-1) (-1))) _ _ s
    rw [places_back]
    exact wpAny_pure q
  refine wpAny_bind (app ?_)
  show wpAny _ _ (if (((items.size : Int) - 1) == 0 && (-1 : Int) == 1 && items.size == items.size) = true then _ else _) _ _ s
  rw [if_neg (by intro z; rw [Bool.and_eq_true, Bool.and_eq_true] at z; exact absurd z.1.2 (by decide)), pick_back]
  first
    | exact wpAny_bind (m := Builtin.Tuple.tupleExact _) (wpAny_newObj_type (wpAny_pure ⟨_, rfl, wpAny_pure h⟩) hz)
    | exact wpAny_bind (m := Builtin.Tuple.tupleExact _) (wpAny_newObj_type (wpAny_bind (wpAny_pure (wpAny_pure ⟨_, rfl, wpAny_pure h⟩))) hz)
    | exact wpAny_bind (wpAny_bind (m := Builtin.Tuple.tupleExact _) (wpAny_newObj_type (wpAny_pure (wpAny_pure ⟨_, rfl, wpAny_pure h⟩)) hz))
    | exact wpAny_bind (wpAny_bind (m := Builtin.Tuple.tupleExact _) (wpAny_newObj_type (wpAny_pure ⟨_, rfl, wpAny_pure h⟩) hz))
end
/-- t[::-1] -/
theorem pe_revT {X : Cx} {e : Expr} {te : TE} {k : Nat} {p1 p2 p3 pos : Pos} (he : PE X e te) : PE X (.Subscript e (.Slice none none (some (.UnaryOp .USub (.Constant (.int 1) k p1) p2)) p3) pos) (fun σ H Q => te σ H fun x H1 => ∃ a xs, x = .ref a ∧ SqT X.K H1 a xs ∧ ∀ p, H1 p = none → Q (.ref p) (upd H1 p (.tup xs.reverse))) := by
  refine ⟨fun pins s σ H Q I h => ?_⟩
  refine Subscript_ (thn (he.run pins s σ H _ I h) fun v s1 ⟨x, H1, I1, r1, a, xs, ex, hx, q⟩ => ?_)
  subst ex
  cases r1
  have neg1 : PO X (some (.UnaryOp .USub (.Constant (.int 1) k p1) p2)) (tPart (tUn (rU fun i => .int (-i)) (tC (.int 1)))) := po_some (pe_un un_neg pe_int)
  refine wpAny_Slice (thn (po_none.run pins s1 σ H1 (fun o H2 => o = none ∧ H2 = H1) I1 ⟨rfl, rfl⟩) fun vl s2 ⟨l, H2, I2, pl, el, e2⟩ => ?_)
  subst el e2
  refine thn (po_none.run pins s2 σ H2 (fun o H3 => o = none ∧ H3 = H2) I2 ⟨rfl, rfl⟩) fun vu s3 ⟨u, H3, I3, pu, eu, e3⟩ => ?_
  subst eu e3
  refine thn (neg1.run pins s3 σ H3 (fun o H4 => o = some (-1) ∧ H4 = H3) I3 ⟨1, rfl, -1, rfl, rfl, rfl⟩) fun vs s4 ⟨o, H4, I4, ps, eo, e4⟩ => ?_
  subst eo e4
  cases pl
  cases pu
  have I5 : Inv X pins σ H4 { s4 with heap := s4.heap.push { cls := .type "slice", data := .fields #[Value.none, Value.none, vs] } } := I4.kept (t' := s4.toks) fun b ob z => Heap.get?_push_of_some _ z
  obtain ⟨its, r, ht, hz⟩ := I5.tuple hx
  show wpAny (model X.prog X.w) X.A (subscriptTail e (.Slice none none (some (.UnaryOp .USub (.Constant (.int 1) k p1) p2)) p3) (.ref a) (.ref s4.heap.objs.size)) (EP X pins σ Q) X.xe { s4 with heap := s4.heap.push { cls := .type "slice", data := .fields #[Value.none, Value.none, vs] } }
  refine tail_any (ops := [.ref a, .ref s4.heap.objs.size]) ht.typeIs (PyProof.Rows.slot_tuple_getitem.lookup) ?_ (by with_unfolding_all rfl)
  refine getItem_tuple_back ht (Heap.IsSliceOf.new _ .none .none vs) ps ?_ (by rw [List.size_toArray, ← r.length]; exact hz)
  refine ⟨.ref _, _, I5.laid (t' := s4.toks) (o := .tup xs.reverse) (fun b ob z => Heap.get?_push_of_some _ z) (Nat.le_refl _) ?_, rfl, q _ (I5.hok.fresh (Nat.le_refl _))⟩
  exact ⟨by rw [List.length_reverse]; exact hz, its.reverse, r.reverse, IsTup.new _ _⟩
def kRevT (x : U) (h : List UO) : Rs U := match x with | .tup xs => .ok (.tup xs.reverse) h | _ => .no
theorem f_revT {X : Cx} {G : Cfg} {W : WX} {e : Expr} {fe : Ev} {k : Nat} {p1 p2 p3 pos : Pos} (hK : X.K = G.K) (he : PE X e (tE G fe W)) : PE X (.Subscript e (.Slice none none (some (.UnaryOp .USub (.Constant (.int 1) k p1) p2)) p3) pos) (tE G (e1 kRevT fe) W) :=
  PE.imp (pe_revT he) fun σ _ Q ⟨us, w, e, m, sl, h⟩ => by
    subst e
    refine ⟨us, w, rfl, m, sl, (Pt.bind (Rel := R G) h).imp ?_⟩
    rintro x H1 ⟨w1, u, rfl, e1, m1, r1, h1⟩
    unfold kRevT at h1
    split at h1
    · cases r1 with
      | tup hs l => exact ⟨_, _, rfl, hK ▸ hs.1, fun p hp => h1.newT m1 l.reverse hp⟩
    · exact h1.elim
theorem sw_trueD {kx vx : Expr} {gs : List Comprehension} {scope : Scope} {pos py : Pos} {y : Str} {l : Nat} {env : Env} (hk : env.scope.kind = .function) (hy : env.scope.names.lookup y = some .local) (hl : (py.line == pos.line) = true)
    (ha : (scope.names.any fun (n, k) => n == y && (k == .local || k == .cell)) = false) : swapsWith (.DictComp kx vx gs scope pos) (some (.Name y py)) l env = pure true := by
  have ky : env.kindOf y = some .local := hy
  have hb : env.blockKind = .function := by
    unfold Env.blockKind
    rw [hk] <;> rfl
  unfold swapsWith
  simp only [hb, ky, ha, Expr.pos, hl] <;> rfl
end Fn
/-! list(reversed(xs)), tuple(reversed(xs)) -/
namespace Fn
open PySem L2 PySem.Spec PyProof.Rows
section
variable {prog : Program} {w : World} {A : Around} {E : Value → Shared → Prop} {s : Shared}
theorem ext_rev {R : Result → Shared → Prop} {it l S : Addr} {items : Array Value} {res : Value} {c₀ : Nat} (hh : A.handled = none) (hit : s.heap.IsRevIter it l ((items.size : Int) - 1)) (hl : s.heap.IsList l items) (hne : l ≠ it) (hn : items.size ≤ sizeLine)
    (hS : s.heap.get? S = some { cls := .type "list", data := .seq #[] c₀ }) (hSi : S ≠ it) (hSl : S ≠ l)
    (hR : ∀ h' tk acc' c', (∀ b o, b ≠ S → b ≠ it → s.heap.get? b = some o → h'.get? b = some o) → h'.get? S = some { cls := .type "list", dict := none, data := .seq acc' c', slots := #[] } →
      ItemsOf (fun i v => items[items.size - 1 - i]? = some v) acc' items.size → R (.ok (.ret res)) { s with heap := h', toks := tk }) :
    wpAny (model prog w) A.in1 (Builtin.List.listExtendWith (.ref S) (.ref it) res) (fun fin s' => match fin with | .done f => R (.ok f) s' | .again c' => c'.quiet = true ∧ codeAny (model prog w) A c' R s') (fun e s' => R (.error e) s') s := by
  have Wk := (Walks.listRev (prog := prog) (w := w) (A := A.in1) hh it l hne items).toS
  have hSf : S ∉ [it, l] := fun z => by
    rcases List.mem_cons.mp z with z | z
    · exact hSi z
    · exact hSl (List.mem_singleton.mp z)
  have hT : s.TypeIs (.ref it) "list_reverseiterator" := hit.typeIs
  unfold Builtin.List.listExtendWith
  refine wpAny_bind (wpAny_typeOf hT ?_)
  rw [if_neg (by simp [Builtin.List.listSameRef, hSi])]
  refine wpAny_bind (wpAny_pyIter_revIter hit (wpAny_bind (wpAny_holding ?_)))
  unfold Builtin.List.listLengthHint
  refine wpAny_bind (wpAny_specialOf hT RT.nolen_lri ?_)
  show wpAny _ A.in1 (specialOf (Value.ref it) (Str.ofString "__length_hint__") >>= _) _ _ _
  refine wpAny_bind (wpAny_specialOf hT RT.hint_lri ?_)
  generalize hid : ("list_reverseiterator.__length_hint__" : String) = id0
  wp_delta
  rw [show splitId id0 = some ("list_reverseiterator", "__length_hint__") from by subst hid; decide +kernel]
  subst hid
  refine wpAny_bind (wpAny_isInstance (b := true) hT (by rw [isSubtype_type]; kernel_rfl) (wpAny_pure ?_))
  rw [if_neg (by decide)]
  have e0 : ((items.size : Nat) : Int) - 1 - ((0 : Nat) : Int) = (items.size : Int) - 1 := by omega
  refine wpAny_pure ⟨plainId_quiet F.plain_extend_loop _, codeAny_extend_loopS Wk hn S hSf res items.size 0 _ #[] c₀ rfl (Nat.zero_le _) ⟨Nat.zero_le _, by rw [e0]; exact hit, hl⟩ hS (ItemsOf.nil _) fun s' acc' c' hm hS' hacc => ?_⟩
  rw [Moved.eq_with hm]
  refine hR s'.heap s'.toks acc' c' (fun b o hb hb2 e => hm.heap b o (fun z => ?_) e) hS' hacc
  rcases List.mem_cons.mp z with z | z
  · exact hb z
  · exact hb2 (List.mem_singleton.mp z)
theorem init_rev {R : Result → Shared → Prop} {it l S : Addr} {items : Array Value} (hh : A.handled = none) (hit : s.heap.IsRevIter it l ((items.size : Int) - 1)) (hl : s.heap.IsList l items) (hne : l ≠ it) (hn : items.size ≤ sizeLine)
    (hS : s.heap.get? S = some { cls := .type "list", data := .seq #[] }) (hSi : S ≠ it) (hSl : S ≠ l)
    (hR : ∀ h' tk acc' c', (∀ b o, b ≠ S → b ≠ it → s.heap.get? b = some o → h'.get? b = some o) → h'.get? S = some { cls := .type "list", dict := none, data := .seq acc' c', slots := #[] } →
      ItemsOf (fun i v => items[items.size - 1 - i]? = some v) acc' items.size → R (.ok (.ret .none)) { s with heap := h', toks := tk }) :
    wpAny (model prog w) A.in1 (Builtin.«list.__init__» ⟨[.ref S, .ref it], []⟩) (fun fin s' => match fin with | .done f => R (.ok f) s' | .again c' => c'.quiet = true ∧ codeAny (model prog w) A c' R s') (fun e s' => R (.error e) s') s := by
  show wpAny _ _ (do let old ← Builtin.List.listItems (.ref S); Builtin.List.listUpdate (.ref S) (fun _ => #[]); letGo old.toList.reverse; Builtin.List.listExtendWith (.ref S) (.ref it) .none) _ _ s
  refine wpAny_bind ?_
  unfold Builtin.List.listItems
  refine wpAny_bind (wpAny_seqItems hS rfl (wpAny_pure ?_))
  show wpAny _ _ (updateSeq S (fun _ => #[]) >>= fun _ => letGo (#[] : Array Value).toList.reverse >>= fun _ => Builtin.List.listExtendWith (.ref S) (.ref it) .none) _ _ s
  refine wpAny_bind (wpAny_updateSeq hS rfl (wpAny_bind (wpAny_letGo ?_)))
  have oth : ∀ b o, b ≠ S → s.heap.get? b = some o → (s.heap.update S (Obj.mapSeq (fun _ => (#[] : Array Value)))).get? b = some o := fun b o hb e => (Heap.get?_update_other _ _ (Ne.symm hb)).trans e
  have hl2 : (s.heap.update S (Obj.mapSeq (fun _ => (#[] : Array Value)))).IsList l items := by
    obtain ⟨o, e, r⟩ := hl
    exact ⟨o, oth l o (Ne.symm hSl) e, r⟩
  exact ext_rev hh (hit.at fun o e => oth it o (Ne.symm hSi) e) hl2 hne hn (Heap.get?_update_self (Obj.mapSeq (fun _ => (#[] : Array Value))) hS rfl) hSi hSl fun h' tk acc' c' hk hS' hacc => hR h' tk acc' c' (fun b o hb hb2 e => hk b o hb hb2 (oth b o hb e)) hS' hacc
theorem call_list_rev {it l : Addr} {items : Array Value} {Q : Value → Shared → Prop} (hh : A.handled = none) (hit : s.heap.IsRevIter it l ((items.size : Int) - 1)) (hl : s.heap.IsList l items) (hne : l ≠ it) (hn : items.size ≤ sizeLine)
    (hQ : ∀ h' tk acc' c', (∀ b o, b ≠ it → s.heap.get? b = some o → h'.get? b = some o) → h'.get? s.heap.objs.size = some { cls := .type "list", dict := none, data := .seq acc' c', slots := #[] } →
      ItemsOf (fun i v => items[items.size - 1 - i]? = some v) acc' items.size → Q (.ref s.heap.objs.size) { s with heap := h', toks := tk }) :
    wpAny (model prog w) A (call (.type "list") [.ref it]) Q E s := by
  refine callType_codes (Q₁ := fun obj s₁ => obj = .ref s.heap.objs.size ∧ s₁ = { s with heap := s.heap.push { cls := .type "list", data := .seq #[] } }) F.called_list (F.typeCall_list_1 _) F.entry_list_init (code_list_new _ ⟨rfl, rfl⟩) fun obj s₁ h₁ => ?_
  obtain ⟨rfl, rfl⟩ := h₁
  have hS : (s.heap.push { cls := .type "list", data := .seq #[] }).get? s.heap.objs.size = some { cls := .type "list", data := .seq #[] } := Heap.get?_push_size _ rfl
  obtain ⟨oi, hoi, _⟩ := id hit
  obtain ⟨ol, hol, _⟩ := id hl
  refine ⟨⟨_, hS, rfl⟩, F.args_list_init_2 _ _, init_rev (A := A.in1) (s := { s with heap := s.heap.push { cls := .type "list", data := .seq #[] } }) hh (hit.at fun o e => Heap.get?_push_of_some _ e) (hl.push _) hne hn hS (Nat.ne_of_gt (Heap.lt_size hoi)) (Nat.ne_of_gt (Heap.lt_size hol)) fun h' tk acc' c' hk hS' hacc => ?_⟩
  exact ⟨rfl, hQ h' tk acc' c' (fun b o hb e => hk b o (Nat.ne_of_lt (Heap.lt_size e)) hb (Heap.get?_push_of_some _ e)) hS' hacc⟩
end
section
variable {X : Cx}
theorem pe_listRev {e : Expr} {te : TE} {p p2 pos pos2 : Pos} (hc : X.calm = true) (hg : Gl X "list") (hm : X.mg "list" = none) (hg2 : Gl X "reversed") (hm2 : X.mg "reversed" = none) (he : PE X e te)
    (hs : starEach [e] X.env = (false, eval e X.env) :: starEach [] X.env := by rfl)
    (hs2 : starEach [.Call (.Name "reversed" p2) [e] [] pos2] X.env = (false, eval (.Call (.Name "reversed" p2) [e] [] pos2) X.env) :: starEach [] X.env := by rfl) :
    PE X (.Call (.Name "list" p) [.Call (.Name "reversed" p2) [e] [] pos2] [] pos) (fun σ H Q => te σ H fun x H1 => ∃ a xs, x = .ref a ∧ SqL X.K H1 a xs ∧ ∀ q, H1 q = none → Q (.ref q) (upd H1 q (.lst xs.reverse))) := by
  refine ⟨fun pins s σ H Q I h => ?_⟩
  refine Call_ (ld_blt I hg hm boot_list (PyProof.Rows.callWith_type1 (args_cons (Call_ (ld_blt I hg2 hm2 PyProof.Rows.boot_reversed (PyProof.Rows.callWith_type1 (args_cons (thn (he.run pins s σ H _ I h) fun u s1 ⟨v, H1, I1, r1, a, xs, ev, hq, q⟩ => args_nil ?_) hs) hs rfl))) hs2) hs2 rfl))
  subst ev
  obtain rfl : u = Value.ref a := r1
  obtain ⟨its, rv, p', hz⟩ := I1.list hq
  have hl := p'.isList
  refine call_reversed_list hl (args_nil ?_)
  have I2 : Inv X pins σ H1 { s1 with heap := s1.heap.push (revObj a ((its.toArray.size : Int) - 1)) } := I1.kept (t' := s1.toks) fun b o e => Heap.get?_push_of_some _ e
  obtain ⟨f0, f1, f2, f3, f4, f5⟩ := I1.fpOk (H' := H1) (b := s1.heap.objs.size) (Nat.le_refl _) (I1.hok.fresh (Nat.le_refl _))
  obtain ⟨ol, hol, _⟩ := id hl
  have hne : a ≠ s1.heap.objs.size := Nat.ne_of_lt (Heap.lt_size hol)
  have hn : its.toArray.size ≤ sizeLine := by rw [List.size_toArray, ← rv.length]; exact hz
  refine call_list_rev (s := { s1 with heap := s1.heap.push (revObj a ((its.toArray.size : Int) - 1)) }) (I1.ok.hd hc) ⟨_, Heap.get?_push_size _ rfl, rfl, rfl⟩ (hl.push _) hne hn fun h' tk acc c' hk hS hi => ?_
  have kp : ∀ b o, s1.heap.get? b = some o → h'.get? b = some o := fun b o e => hk b o (Nat.ne_of_lt (Heap.lt_size e)) (Heap.get?_push_of_some _ e)
  have sz : s1.heap.objs.size ≤ (s1.heap.push (revObj a ((its.toArray.size : Int) - 1))).objs.size := by rw [Heap.size_push]; exact Nat.le_succ _
  refine ⟨.ref _, upd H1 (s1.heap.push (revObj a ((its.toArray.size : Int) - 1))).objs.size (.lst xs.reverse), I1.laid (t' := tk) kp sz (show ObjOk X.prog X.w _ _ _ (.lst xs.reverse) from ⟨by rw [List.length_reverse]; exact hz, acc.toList, c', RT.vals_rev rv hi, ?_⟩), rfl, q _ (I1.hok.fresh sz)⟩
  rw [Array.toArray_toList]
  exact hS
end
/-- the reversed list, of a list -/
def nRev (x : U) (h : List UO) : Rs (List U) := match lstU h x with | some xs => .ok xs.reverse h | none => .no
def eRevN (f : Ev) : EvL := fun us h => (f us h).bind nRev
theorem f_listrev {X : Cx} {G : Cfg} {W : WX} {e : Expr} {fe : Ev} {p p2 pos pos2 : Pos} (hK : X.K = G.K) (hc : X.calm = true) (hg : Gl X "list") (hm : X.mg "list" = none) (hg2 : Gl X "reversed") (hm2 : X.mg "reversed" = none) (he : PE X e (tE G fe W))
    (hs : starEach [e] X.env = (false, eval e X.env) :: starEach [] X.env := by rfl)
    (hs2 : starEach [.Call (.Name "reversed" p2) [e] [] pos2] X.env = (false, eval (.Call (.Name "reversed" p2) [e] [] pos2) X.env) :: starEach [] X.env := by rfl) :
    PE X (.Call (.Name "list" p) [.Call (.Name "reversed" p2) [e] [] pos2] [] pos) (tN G (eRevN fe) W) :=
  PE.imp (pe_listRev hc hg hm hg2 hm2 he hs hs2) fun σ _ Q ⟨us, w, e, m, sl, h⟩ => by
    subst e
    refine ⟨us, w, rfl, m, sl, (PtN.bind (Rel := R G) h).imp ?_⟩
    rintro x H1 ⟨w1, u, rfl, e1, m1, r1, h1⟩
    unfold nRev at h1
    split at h1
    · rename_i xs q
      obtain ⟨p, vs, rfl, hs, l⟩ := lstU_of m1 r1 q
      exact ⟨p, vs, rfl, hK ▸ hs, fun p hp => newL e1 m1 l.reverse rfl h1 hp⟩
    · exact h1.elim
def kRevL (x : U) (h : List UO) : Rs U := match lstU h x with | some xs => .ok (.tup xs.reverse) h | none => .no
theorem f_tuprev {X : Cx} {G : Cfg} {W : WX} {e : Expr} {fe : Ev} {p p2 pos pos2 : Pos} (hK : X.K = G.K) (hc : X.calm = true) (hg : Gl X "tuple") (hm : X.mg "tuple" = none) (hg2 : Gl X "reversed") (hm2 : X.mg "reversed" = none) (he : PE X e (tE G fe W))
    (hs : starEach [e] X.env = (false, eval e X.env) :: starEach [] X.env := by rfl)
    (hs2 : starEach [.Call (.Name "reversed" p2) [e] [] pos2] X.env = (false, eval (.Call (.Name "reversed" p2) [e] [] pos2) X.env) :: starEach [] X.env := by rfl) :
    PE X (.Call (.Name "tuple" p) [.Call (.Name "reversed" p2) [e] [] pos2] [] pos) (tE G (e1 kRevL fe) W) :=
  PE.imp (RT.pe_tupRev hc hg hm hg2 hm2 he hs hs2) fun σ _ Q ⟨us, w, e, m, sl, h⟩ => by
    subst e
    refine ⟨us, w, rfl, m, sl, (Pt.bind (Rel := R G) h).imp ?_⟩
    rintro x H1 ⟨w1, u, rfl, e1, m1, r1, h1⟩
    unfold kRevL at h1
    split at h1
    · rename_i xs q
      obtain ⟨p, vs, rfl, hs, l⟩ := lstU_of m1 r1 q
      exact ⟨p, vs, rfl, hK ▸ hs, fun p hp => h1.newT m1 l.reverse hp⟩
    · exact h1.elim
/-! ### sorted(t), a tuple of ints -/
section
variable {prog : Program} {w : World} {A : Around} {E : Value → Shared → Prop} {s : Shared}
theorem sorted_tupI {t : Addr} {vs : List Value} {ns : List Int} {Q : Value → Shared → Prop} (ht : IsTup s.heap t vs.toArray) (hI : IntsAre vs ns) (hL : vs.length ≤ sizeLine)
    (h : ∀ (S : Addr) (h' : Heap) (out : Array Value) (ns' : List Int) (e : Nat), s.heap.get? S = none → (∀ b o, s.heap.get? b = some o → h'.get? b = some o) → h'.get? S = some (seqObj "list" out e) → IntsAre out.toList ns' → ns'.Perm ns → ns'.Pairwise (· ≤ ·) → Q (.ref S) { s with heap := h' }) :
    wpAny (model prog w) A (call (.builtin "sorted") [.ref t]) Q E s := by
  obtain ⟨o, ho, hc, n, hd⟩ := ht
  refine Calls.call_function_entry kind_sorted plain_sorted entry_sorted (args_sorted1 _) ?_
  unfold Builtin.«sorted»
  refine wpAny_bind (m := checkCount "sorted" 1 1 _) (wpAny_pure (wpAny_bind (wpAny_collect_seq t (.inr rfl) ho hc hd ?_ (by rw [List.size_toArray]; exact hL))))
  intro h1 hk
  have ev : vs.toArray.toList = vs := by simp
  rw [ev]
  refine wpAny_bind (wpAny_newList ?_)
  have hoL : (h1.push (seqObj "list" vs.toArray 0)).get? h1.objs.size = some (seqObj "list" vs.toArray 0) := Heap.get?_push_size _ rfl
  show wpAny _ _ _ _ _ { s with heap := h1.push (seqObj "list" vs.toArray 0) }
  refine wpAny_bind (wpAny_holding (wpAny_call_entry PyProof.Rows.slot_list_sort ⟨_, hoL, rfl⟩ PyProof.Rows.entry_list_sort (list_sort_treeAny hoL hI hL fun out ns' a1 a2 a3 => ⟨_, rfl, ?_⟩) (PyProof.Rows.args_list_sort _)))
  obtain ⟨ep, he⟩ := PyProof.Rows.sortedHeap_at (vs := vs) (out := out) hoL
  refine wpAny_pure ⟨_, rfl, h h1.objs.size _ out ns' ep ?_ (fun b u hb => ?_) he a1 a2 a3⟩
  · cases q : s.heap.get? h1.objs.size with
    | none => rfl
    | some o' => exact absurd (Heap.lt_size (hk _ _ q)) (Nat.lt_irrefl _)
  · have hb1 := hk b u hb
    have hlt := Heap.lt_size hb1
    rw [PyProof.Rows.sortedHeap_old (Nat.ne_of_lt hlt) (by rw [Heap.size_push]; exact Nat.lt_succ_of_lt hlt)]
    exact Heap.get?_push_of_some _ hb1
end
section
variable {X : Cx}
def rSortedTup (K : PySem.W.Frag) : List V → Hp → VK → Prop := fun vs H Q => ∃ (a : Addr) (ns : List Int), vs = [V.ref a] ∧ SqT K H a (ns.map V.int) ∧ ∀ (ns' : List Int) (p : Addr), ns'.Perm ns → ns'.Pairwise (· ≤ ·) → H p = none → Q (.ref p) (upd H p (.lst (ns'.map V.int)))
theorem cr_sortedTup : CallR X (.builtin "sorted") (rSortedTup X.K) := by
  intro pins s σ H vs us Q I r h
  obtain ⟨a, ns, rfl, hs, q⟩ := h
  obtain ⟨its, rv, ht, hz⟩ := I.tuple hs
  rw [Vals.ref1 r]
  refine sorted_tupI ht rv.ints (by rw [← rv.length]; exact hz) fun S h' out ns' e hn hk he h1 h2 h3 => ?_
  have nS := I.hok.gone hn
  have hlen : (ns'.map V.int).length ≤ sizeLine := by
    rw [List.length_map] at hz ⊢
    rw [h2.length_eq]
    exact hz
  exact ⟨.ref S, upd H S (.lst (ns'.map V.int)), I.laidN (t' := s.toks) hk hn nS ⟨hlen, out.toList, e, vals_of_ints h1, by rw [Array.toArray_toList]; exact he⟩, rfl, q ns' S h2 h3 nS⟩
end
/-- sorted of a list or a tuple of ints -/
def kSortedS (xs : List U) (h : List UO) : Rs U := match xs with
  | [.tup xs] => (match toInts xs with | some ns => .ok (.fl ((sortI ns).map .int)) h | none => .no)
  | xs => kSorted xs h
theorem f_sortedS {X : Cx} {G : Cfg} {W : WX} {e : Expr} {fa : EvA} {p pos : Pos} (hK : X.K = G.K) (hg : Gl X "sorted") (hm : X.mg "sorted" = none) (ha : PA X [e] (tA G fa W)) (he : starEach [e] X.env = (false, eval e X.env) :: starEach [] X.env := by rfl) : PE X (.Call (.Name "sorted" p) [e] [] pos) (tE G (eCall kSortedS fa) W) :=
  f_callB (r := fun vs H Q => rSorted X.K vs H Q ∨ rSortedTup X.K vs H Q) (cr_sorted.or cr_sortedTup) (fun w σ W xs vs Q m l h => by
    unfold kSortedS at h
    split at h
    · rename_i ys
      split at h
      · rename_i ns q
        cases l with
        | cons r t =>
          cases t
          cases r with
          | tup hs l2 =>
            obtain ⟨rfl, _⟩ := toInts_of l2 q
            refine .inr ⟨_, ns, rfl, by rw [hK]; exact hs.1, fun ns' p hp ho hn => ?_⟩
            have e := sortI_one hp ho
            subst e
            exact h.newF m RL.ints hn
      · exact h.elim
    · exact .inl (hK ▸ ok_sorted w σ W _ vs Q m l h)) hg hm (by decide +kernel) ha (by decide) (by decide) he (by rfl)
end Fn
/-! tuples of ints of any lengths in order: sorted -/
namespace Fn
open PySem L2 PySem.Spec PyProof.Rows
/-- a tuple of ints -/
def IsTI (h : Heap) (v : Value) (ns : List Int) : Prop := ∃ a o xs n, v = .ref a ∧ h.get? a = some o ∧ o.cls = .type "tuple" ∧ o.data = .seq xs n ∧ IntsAre xs.toList ns
theorem IsTI.keeps {h h' : Heap} {v : Value} {ns : List Int} (x : IsTI h v ns) (k : ∀ b o, h.get? b = some o → o.cls = .type "tuple" → h'.get? b = some o) : IsTI h' v ns := by
  obtain ⟨a, o, xs, n, e, ho, hc, hd, hi⟩ := x
  exact ⟨a, o, xs, n, e, k a o ho hc, hc, hd, hi⟩
section
variable {prog : Program} {w : World} {A : Around} {s : Shared}
theorem lex_ints {b fin : Bool} {Q : Bool → Shared → Prop} : ∀ (xs ys : List Value) (ns ms : List Int) (i : Nat), IntsAre xs ns → IntsAre ys ms → fin = decide (xs.length < ys.length) → Q (HT.lexLt ns ms) s → PySem.W.KatLex prog w A b fin Q (xs.zip ys) i s
  | _, _, _, _, i, .nil, .nil, hf, hq => by
    subst hf
    exact PySem.W.kat_nil hq
  | _, _, _, _, i, .nil, .cons y u hy, hf, hq => by
    subst hf
    exact PySem.W.kat_nil (by simpa [HT.lexLt_nil_cons] using hq)
  | _, _, _, _, i, .cons x t hx, .nil, hf, hq => by
    subst hf
    exact PySem.W.kat_nil (by simpa [HT.lexLt_cons_nil] using hq)
  | _, _, _, _, i, @IntsAre.cons x t xs ns hx, @IntsAre.cons y u ys ms hy, hf, hq => by
    rw [List.zip_cons_cons]
    rw [HT.lexLt_cons] at hq
    refine PySem.W.kat_cons (SeqAt.EqAt.int_int x t y u prog w _ _ ?_)
    refine PySem.W.kat_go (fun e1 => ?_) (fun e1 => ?_)
    · have ex : x = y := by simpa using e1
      rw [if_pos ex] at hq
      exact PySem.W.kat_yes (lex_ints xs ys ns ms (i + 1) hx hy (by rw [hf]; simp) hq)
    · have ex : ¬ x = y := by simpa using e1
      rw [if_neg ex] at hq
      refine PySem.W.kat_no ?_
      cases hb : (b && i == 0) with
      | true => exact oneLt_int hq
      | false => exact PySem.W.kat_one _ _ (PyProof.Rows.lt_int hq)
theorem ti_cmp {vs : List Value} {k : Value → List Int} (hp : ∀ v ∈ vs, IsTI s.heap v (k v)) : SrtO.Cmp prog w A s (tuples' true) (fun p => p.1 ∈ vs) (SrtO.lt2 fun v u => HT.lexLt (k v) (k u)) := by
  intro p q hm hm'
  have h1 := hp _ hm
  have h2 := hp _ hm'
  show wpAny (model prog w) A (keyLt' (tuples' true) p.1 q.1) (fun r s' => s' = s ∧ r = HT.lexLt (k p.1) (k q.1)) (fun _ _ => False) s
  generalize k p.1 = x at h1 ⊢
  generalize k q.1 = x' at h2 ⊢
  obtain ⟨a, o, xs, n, e, ho, hc, hd, hi⟩ := h1
  obtain ⟨a', o', ys, n', e', ho', hc', hd', hi'⟩ := h2
  rw [e, e']
  refine PySem.W.kat_lt ho hd ho' hd' ?_
  exact lex_ints _ _ _ _ _ hi hi' (by rw [Array.length_toList, Array.length_toList]) ⟨rfl, rfl⟩
theorem ti_firsts {h : Heap} {k : Value → List Int} : ∀ vs : List Value, (∀ v ∈ vs, IsTI h v (k v)) → (∀ v ∈ vs, k v ≠ []) → ∃ fs, PySem.W.KatTups h vs fs ∧ fs.length = vs.length ∧ ∀ f ∈ fs, ∃ x t, f = Value.int x t
  | [], _, _ => ⟨[], PySem.W.KatTups.nil, rfl, fun _ h => nomatch h⟩
  | v :: r, hp, hn => by
    obtain ⟨fs, h1, h2, h3⟩ := ti_firsts r (fun v hv => hp v (List.mem_cons_of_mem _ hv)) (fun v hv => hn v (List.mem_cons_of_mem _ hv))
    obtain ⟨a, o, xs, n, e, ho, hc, hd, hi⟩ := hp v List.mem_cons_self
    have hne := hn v List.mem_cons_self
    generalize k v = ks at hi hne
    generalize hx : xs.toList = l at hi
    cases hi with
    | nil => exact absurd rfl hne
    | cons x t hr =>
      refine ⟨.int x t :: fs, ?_, by rw [List.length_cons, List.length_cons, h2], fun f hf => ?_⟩
      · rw [e]
        refine PySem.W.KatTups.cons ho hc hd ?_ h1
        rw [← Array.getElem?_toList, hx]
        rfl
      · rcases List.mem_cons.mp hf with z | z
        · exact ⟨x, t, z⟩
        · exact h3 f z
theorem ti_sortable {a : Addr} {vs : List Value} {k : Value → List Int} (h2 : 2 ≤ vs.length) (hp : ∀ v ∈ vs, IsTI s.heap v (k v)) (hne : ∀ v ∈ vs, k v ≠ []) (ha : ∀ o, s.heap.get? a = some o → o.cls ≠ .type "tuple") :
    SrtO.SortableO prog w A s a vs fun v u => HT.lexLt (k v) (k u) := by
  intro h' keep
  have hp' : ∀ v ∈ vs, IsTI h' v (k v) := fun v hm => (hp v hm).keeps fun b o e c => keep b o (fun z => by subst z; exact ha o e c) e
  obtain ⟨fs, h1, h3, h4⟩ := ti_firsts vs hp' hne
  refine ⟨tuples' true, fun Q E hq => ?_, ti_cmp hp'⟩
  refine PySem.W.kat_kind (T := .type "int") h1 (by omega) (fun f hm => ?_) (by rfl) ?_
  · obtain ⟨x, t, rfl⟩ := h4 f hm
    exact PySem.W.Looks.now
  · have e : (Value.type "int" != Value.type "tuple") = true := by first | decide +kernel | rfl | decide
    rw [e]
    exact hq
end
/-! ### sorted of what is walked like a dict -/
section
variable {prog : Program} {w : World} {A : Around} {E : Value → Shared → Prop} {s : Shared} {T : String} {r d : Addr} {n : Nat} {P : Nat → Value → Prop} {OK : Heap → Prop}
theorem collect_src {Q : List Value → Shared → Prop} (K : PySem.W.KdlSrc prog w T r d n P OK) (hh : A.handled = none) (hok : OK s.heap) (hn : n ≤ sizeLine)
    (h : ∀ h' tk acc, (∀ b o, s.heap.get? b = some o → h'.get? b = some o) → s.heap.objs.size < h'.objs.size → ItemsOf P acc n → Q acc.toList { s with heap := h', toks := tk }) : wpAny (model prog w) A (collect (.ref r)) Q E s := by
  obtain ⟨hr, hd⟩ := K.there _ hok
  unfold collect
  refine wpAny_bind (wpAny_runValue (codeAny_builtin PySem.F.entry_proto_collect ?_))
  rw [Around.under_plainId PySem.F.plain_proto_collect _]
  show wpAny _ A.in1 (newList [] >>= fun l => again (.builtin "list.__iadd__" ⟨[l, .ref r], []⟩)) _ _ s
  refine wpAny_bind (wpAny_newObj_type ?_)
  refine wpAny_pure ⟨plainId_quiet PySem.F.plain_list_iadd _, codeAny_builtin PySem.F.entry_list_iadd ?_⟩
  rw [Around.under_plainId PySem.F.plain_list_iadd _]
  have hS₁ : (s.heap.push { cls := .type "list", data := .seq ([] : List Value).toArray }).get? s.heap.objs.size = some { cls := .type "list", data := .seq #[] } := Heap.get?_push_size _ rfl
  show wpAny _ A.in1 (Builtin.List.listExtendWith (.ref s.heap.objs.size) (.ref r) (.ref s.heap.objs.size)) _ _ _
  have key := PySem.W.kdl_extend (prog := prog) (w := w) (A := A) (s := { s with heap := s.heap.push { cls := .type "list", data := .seq ([] : List Value).toArray } })
    (R := fun (q : Result) (s' : Shared) => ∃ (h' : Heap) (tk : Nat) (acc' : Array Value) (c' : Nat), q = .ok (.ret (.ref s.heap.objs.size)) ∧ s' = { s with heap := h', toks := tk } ∧
      (∀ b o, s.heap.get? b = some o → h'.get? b = some o) ∧ h'.get? s.heap.objs.size = some { cls := .type "list", dict := none, data := .seq acc' c', slots := #[] } ∧ ItemsOf P acc' n)
    K hh (K.keep _ _ hok fun b _ o e => Heap.get?_push_of_some _ e) s.heap.objs.size (Nat.ne_of_gt hr) (Nat.ne_of_gt hd) (.ref s.heap.objs.size) 0 hS₁
    (fun h' tk acc' c' hk hS' hacc => ⟨h', tk, acc', c', rfl, rfl, fun b o e => hk b o (Nat.ne_of_lt (Heap.lt_size e)) (Heap.get?_push_of_some _ e), hS', hacc⟩) hn
  refine wpAny_mono key (fun fin s' x => ?_) fun e s' x => ?_
  · cases fin with
    | done f =>
      obtain ⟨h', tk, acc', c', e, rfl, hk, hS', hacc⟩ := x
      cases e
      show wpAny _ A (load s.heap.objs.size >>= _) _ _ _
      refine wpAny_bind (wpAny_load hS' ?_)
      exact wpAny_pure (h h' tk acc' hk (Heap.lt_size hS') hacc)
    | again c₁ =>
      refine ⟨x.1, codeAny_mono x.2 fun q s₂ y => ?_⟩
      obtain ⟨h', tk, acc', c', rfl, rfl, hk, hS', hacc⟩ := y
      show wpAny _ A (load s.heap.objs.size >>= _) _ _ _
      refine wpAny_bind (wpAny_load hS' ?_)
      exact wpAny_pure (h h' tk acc' hk (Heap.lt_size hS') hacc)
  · obtain ⟨_, _, _, _, e', _⟩ := x
    cases e'
open SrtO SrtR in
/-- sorted(d, reverse=b) -/
theorem sorted_src {b : Bool} {Q : Value → Shared → Prop} (K : PySem.W.KdlSrc prog w T r d n P OK) (hh : A.handled = none) (hok : OK s.heap) (hn : n ≤ sizeLine) {kw : List (Str × Value)}
    (hk : ∀ a, Builtin.«list.sort» ⟨[.ref a], kw⟩ = Builtin.«list.sort» ⟨[.ref a], [(Str.ofString "reverse", .bool b)]⟩) (ha1 : argsOk "sorted" ⟨[.ref r], kw⟩) (ha2 : ∀ a, argsOk "list.sort" ⟨[a], kw⟩) {ltv : Value → Value → Bool} (O : Swo ltv)
    (hS : ∀ vs : List Value, ItemsOf P vs.toArray n → 2 ≤ vs.length → ∀ (s₁ : Shared) (a : Addr), s₁.heap.get? a = some (seqObj "list" vs.toArray 0) → (∀ b o, s.heap.get? b = some o → b ≠ a ∧ s₁.heap.get? b = some o) → SortableO prog w A.in1.in1 s₁ a vs ltv)
    (h : ∀ (vs out : List Value) (h' : Heap) (tk p c : Nat), ItemsOf P vs.toArray n → Srtd ltv out → Stb ltv out (if b = true then vs.reverse else vs) → (∀ b o, s.heap.get? b = some o → h'.get? b = some o) → s.heap.objs.size ≤ p →
      h'.get? p = some (seqObj "list" (if b = true then out.toArray.reverse else out.toArray) c) → Q (.ref p) { s with heap := h', toks := tk }) :
    wpAny (model prog w) A (call (.builtin "sorted") [.ref r] kw) Q E s := by
  refine call_function_entry_kw kind_sorted plain_sorted entry_sorted ha1 ?_
  unfold Builtin.«sorted»
  refine wpAny_bind (m := checkCount "sorted" 1 1 _) (wpAny_pure ?_)
  refine wpAny_bind (collect_src (A := A.in1) K hh hok hn fun h1 tk acc k1 z1 it => ?_)
  have hz : acc.toList.length ≤ sizeLine := by rw [Array.length_toList, it.1]; exact hn
  refine wpAny_bind (wpAny_newList ?_ hz)
  have hoL : (h1.push (seqObj "list" acc.toList.toArray 0)).get? h1.objs.size = some (seqObj "list" acc.toList.toArray 0) := Heap.get?_push_size _ rfl
  have it' : ItemsOf P acc.toList.toArray n := by rw [Array.toArray_toList]; exact it
  have keep : ∀ b o, s.heap.get? b = some o → b ≠ h1.objs.size ∧ (h1.push (seqObj "list" acc.toList.toArray 0)).get? b = some o := fun b o q =>
    ⟨Nat.ne_of_lt (Nat.lt_trans (Heap.lt_size q) z1), Heap.get?_push_of_some _ (k1 b o q)⟩
  refine wpAny_bind (wpAny_holding (wpAny_call_entry_kw slot_list_sort ⟨_, hoL, rfl⟩ entry_list_sort ?_ (ha2 _)))
  rw [hk]
  refine list_sort_ordR O hoL hz (fun h2 => hS _ it' h2 _ _ hoL keep) fun out hs hb => ⟨_, rfl, ?_⟩
  obtain ⟨c, hc⟩ := PyProof.Rows.sortedHeap_at (vs := acc.toList) (out := if b = true then out.toArray.reverse else out.toArray) hoL
  refine wpAny_pure ⟨_, rfl, h _ _ _ _ _ c it' hs hb (fun b o q => ?_) (Nat.le_of_lt z1) hc⟩
  rw [PyProof.Rows.sortedHeap_old (keep b o q).1 (by rw [Heap.size_push]; exact Nat.lt_succ_of_lt (Nat.lt_trans (Heap.lt_size q) z1))]
  exact (keep b o q).2
end
/-! ### sorted(d, reverse=b), the keys of d tuples of ints -/
def iVal : Value → Int | .int i _ => i | _ => 0
def intsAt (h : Heap) (v : Value) : List Int := match v with
  | .ref a => (match h.get? a with | some o => (match o.data with | .seq xs _ => xs.toList.map iVal | _ => []) | none => [])
  | _ => []
theorem iVal_ints : ∀ {vs : List Value} {ns : List Int}, IntsAre vs ns → vs.map iVal = ns
  | _, _, .nil => rfl
  | _, _, .cons n t r => by rw [List.map_cons, iVal_ints r]; rfl
theorem IsTI.ints {h : Heap} {v : Value} {ns : List Int} (x : IsTI h v ns) : intsAt h v = ns := by
  obtain ⟨a, o, xs, n, rfl, ho, hc, hd, hi⟩ := x
  unfold intsAt
  simp only [ho, hd]
  exact iVal_ints hi
def OrdL (b : Bool) (nss : List (List Int)) : Prop := nss.Pairwise fun x y => (if b = true then HT.lexLt x y else HT.lexLt y x) = false
theorem keysI {H : Hp} : ∀ {kvs : List (List Key × V)} {nss : List (List Int)} {bs : List Addr}, kvs.map (·.1) = nss.map (·.map Sum.inl) → Paired (fun p b => H b = some (.tup (p.1.map kV))) kvs bs → Paired (fun (ns : List Int) b => H b = some (.tup (ns.map V.int))) nss bs
  | _, [], _, e, h => by
    cases h with
    | nil => exact .nil
    | cons _ _ => cases e
  | _, ns :: nss, _, e, h => by
    cases h with
    | nil => cases e
    | cons h t =>
      rw [List.map_cons, List.map_cons] at e
      injection e with e1 e2
      refine .cons ?_ (keysI e2 t)
      rw [h, e1, List.map_map]
      rfl
theorem paired_each {α β : Type} {F : α → β → Prop} : ∀ {l : List α} {m : List β}, Paired F l m → ∀ y ∈ m, ∃ x ∈ l, F x y
  | _, _, .nil, _, h => nomatch h
  | _, _, .cons h t, y, hy => by
    rcases List.mem_cons.mp hy with e | e
    · exact ⟨_, List.mem_cons_self, e ▸ h⟩
    · obtain ⟨x, hx, q⟩ := paired_each t y e
      exact ⟨x, List.mem_cons_of_mem _ hx, q⟩
theorem paired_of {α β : Type} {F : α → β → Prop} {g : β → α} : ∀ {m : List β}, (∀ y ∈ m, F (g y) y) → Paired F (m.map g) m
  | [], _ => .nil
  | y :: m, h => .cons (h y List.mem_cons_self) (paired_of fun z hz => h z (List.mem_cons_of_mem _ hz))
theorem paired_map {α β : Type} {F : α → β → Prop} {g : β → α} (hg : ∀ x y, F x y → g y = x) : ∀ {l : List α} {m : List β}, Paired F l m → m.map g = l
  | _, _, .nil => rfl
  | _, _, .cons h t => by rw [List.map_cons, hg _ _ h, paired_map hg t]
def rSortedDT (b : Bool) : List V → List V → Hp → VK → Prop := fun vs zs H Q => ∃ (d : Addr) (kvs : List (List Key × V)) (nss : List (List Int)), vs = [V.ref d] ∧ zs = [V.bl b] ∧ H d = some (.dT kvs) ∧ kvs.map (·.1) = nss.map (·.map Sum.inl) ∧ (2 ≤ nss.length → ∀ ns ∈ nss, ns ≠ []) ∧
  ∀ (p : Addr) (bs : List Addr) (nss' : List (List Int)), H p = none → nss'.Perm nss → OrdL b nss' → Paired (fun (ns : List Int) c => H c = some (.tup (ns.map V.int))) nss' bs → Q (.ref p) (upd H p (.lst (bs.map V.ref)))
open SrtO in
theorem cr_sortedDT {X : Cx} {b : Bool} (hc : X.calm = true) : CallRK X (.builtin "sorted") [Str.ofString "reverse"] (rSortedDT b) := by
  intro pins s σ H vs zs us ws Q I r rz h
  obtain ⟨d, kvs, nss, rfl, rfl, hd, hkeys, hne, q⟩ := h
  obtain rfl := Vals.ref1 r
  obtain ⟨w1, rfl, e1⟩ := vals1 rz
  obtain rfl : w1 = Value.bool b := e1
  obtain ⟨z, hs, ks, pr, o, es, ep, ho, hx, hdt, he, hn⟩ := (show ObjOk X.prog X.w H s.heap d (.dT kvs) from I.hok d _ hd)
  have l1 : es.size = ks.length := size_of_entries he
  have l2 : kvs.length = ks.length := Paired.length pr
  have pk : Paired (fun (ns : List Int) c => H c = some (.tup (ns.map V.int))) nss (ks.map fun x => x.2.1) := keysI hkeys (isKeys_of pr)
  have ti : ∀ (ns : List Int) (c : Addr), H c = some (.tup (ns.map V.int)) → IsTI s.heap (.ref c) ns := fun ns c h => by
    obtain ⟨_, its, rv, o, ho, hc, n, hd⟩ := I.hok _ _ h
    exact ⟨c, o, its.toArray, n, rfl, ho, hc, hd, by simpa using rv.ints⟩
  have hnss : (ks.map fun x => x.2.1).map (fun c => intsAt s.heap (.ref c)) = nss := paired_map (fun ns c h => (ti ns c h).ints) pk
  have each : ∀ c ∈ ks.map (fun x => x.2.1), H c = some (.tup ((intsAt s.heap (.ref c)).map V.int)) ∧ intsAt s.heap (.ref c) ∈ nss := fun c hm => by
    obtain ⟨ns, hn, h⟩ := paired_each pk c hm
    rw [(ti ns c h).ints]
    exact ⟨h, hn⟩
  have eb : ∀ us : List Value, ItemsOf (fun i v => ∃ en : DictEntry, es[i]? = some en ∧ v = en.key) us.toArray es.size → us = (ks.map fun x => x.2.1).map Value.ref := fun us it => by
    have hl : us.length = ks.length := by have := it.1; rw [List.size_toArray] at this; omega
    rw [List.map_map]
    apply List.ext_getElem?
    intro j
    rw [List.getElem?_map]
    cases hj : us[j]? with
    | none =>
      have h1 := List.getElem?_eq_none_iff.mp hj
      rw [List.getElem?_eq_none (by omega)]
      rfl
    | some v =>
      obtain ⟨en, hen, hv⟩ := it.2 j v (by simpa using hj)
      have qe := entry_at he j
      rw [hen] at qe
      cases hb : ks[j]? with
      | none =>
        rw [hb] at qe
        exact nomatch (show some en = none from qe)
      | some b =>
        rw [hb] at qe
        have e2 : en = entryOfKey (tupleKind (mixKind X.prog X.w)) b := Option.some.inj qe
        rw [hv, e2]
        rfl
  refine sorted_src (kdl_raw hs hx hdt) (I.ok.hd hc) ho (by omega) (fun _ => rfl) (PyProof.Rows.args_sorted_rev _ _) (fun _ => PyProof.Rows.args_list_sort_rev _ _) (NtL.swo_lexL (intsAt s.heap)) (fun us it h2 s₁ a ha kk => ?_) fun us out h' tk p c it hs hb kk hp hob => ?_
  · have e := eb us it
    have hv : ∀ v ∈ us, IsTI s₁.heap v (intsAt s.heap v) := fun v hm => by
      rw [e] at hm
      obtain ⟨c, hc, rfl⟩ := List.mem_map.mp hm
      exact (ti _ c (each c hc).1).keeps fun b o q _ => (kk b o q).2
    refine ti_sortable h2 hv (fun v hm => ?_) fun o e => ?_
    · rw [e] at hm
      obtain ⟨c, hc, rfl⟩ := List.mem_map.mp hm
      refine hne ?_ _ (each c hc).2
      rw [← hnss, List.length_map, ← List.length_map (f := Value.ref), ← e]
      exact h2
    · rw [ha] at e
      cases e
      exact fun z => absurd (Value.type.inj z) (by decide)
  · have e := eb us it
    have hperm : (if b = true then out.reverse else out).Perm us := by
      cases b with
      | true => exact (List.reverse_perm _).trans (hb.perm.trans (List.reverse_perm _))
      | false => exact hb.perm
    have eo : (if b = true then out.toArray.reverse else out.toArray).toList = (if b = true then out.reverse else out) := by
      cases b with
      | true => exact Array.toList_reverse
      | false => rfl
    have hall : ∀ v ∈ (if b = true then out.reverse else out), ∃ t, v = Value.ref t := fun v hm => by
      have := hperm.mem_iff.mp hm
      rw [e] at this
      obtain ⟨c, _, rfl⟩ := List.mem_map.mp this
      exact ⟨c, rfl⟩
    generalize hbs : (if b = true then out.reverse else out).map adO = bs
    have er : (if b = true then out.reverse else out) = bs.map Value.ref := by rw [← hbs]; exact ref_map hall
    have pb : bs.Perm (ks.map fun x => x.2.1) := by
      rw [← hbs]
      have := hperm.map adO
      rw [e, ad_map] at this
      exact this
    have hord : OrdL b (bs.map fun c => intsAt s.heap (.ref c)) := by
      have h1 : (bs.map fun c => intsAt s.heap (.ref c)) = (if b = true then out.reverse else out).map (intsAt s.heap) := by rw [er, List.map_map]; rfl
      rw [h1]
      unfold OrdL
      rw [List.pairwise_map]
      cases b with
      | true =>
        show (out.reverse).Pairwise _
        rw [List.pairwise_reverse]
        exact hs
      | false => exact hs
    have hz : (bs.map V.ref).length ≤ sizeLine := by
      rw [List.length_map, pb.length_eq, List.length_map]
      omega
    refine ⟨.ref p, _, I.laid (t' := tk) (o := .lst (bs.map V.ref)) kk hp ?_, rfl, q p bs _ (I.hok.fresh hp) ?_ hord (paired_of fun c hc => (each c (pb.mem_iff.mp hc)).1)⟩
    · exact ⟨hz, bs.map Value.ref, c, vals_refs _, by rw [← er, ← eo, Array.toArray_toList]; exact hob⟩
    · rw [← hnss]
      exact pb.map _
/-! ### the evaluator -/
theorem perm_uniq {α : Type} [DecidableEq α] {R : α → α → Prop} (anti : ∀ x y, R x y → R y x → x = y) : ∀ {l m : List α}, l.Perm m → l.Pairwise R → m.Pairwise R → l = m
  | [], m, p, _, _ => (List.nil_perm.mp p).symm
  | x :: l, [], p, _, _ => by have := p.length_eq; simp at this
  | x :: l, y :: m, p, hl, hm => by
    obtain ⟨h1, h2⟩ := List.pairwise_cons.mp hl
    obtain ⟨h3, h4⟩ := List.pairwise_cons.mp hm
    have e : x = y := by
      by_cases z : x = y
      · exact z
      have a : y ∈ l := by
        rcases List.mem_cons.mp (p.mem_iff.mpr List.mem_cons_self) with q | q
        · exact absurd q.symm z
        · exact q
      have b : x ∈ m := by
        rcases List.mem_cons.mp (p.mem_iff.mp List.mem_cons_self) with q | q
        · exact absurd q z
        · exact q
      exact anti x y (h1 y a) (h3 x b)
    subst e
    rw [perm_uniq anti (List.perm_cons x |>.mp p) h2 h4]
theorem lex_anti : ∀ x y : List Int, HT.lexLt x y = false → HT.lexLt y x = false → x = y
  | [], [], _, _ => rfl
  | [], _ :: _, h, _ => by cases h
  | _ :: _, [], _, h => by cases h
  | a :: x, b :: y, h1, h2 => by
    rw [HT.lexLt_cons] at h1 h2
    by_cases e : a = b
    · subst e
      rw [if_pos rfl] at h1 h2
      rw [lex_anti x y h1 h2]
    · rw [if_neg e, decide_eq_false_iff_not] at h1
      rw [if_neg fun z => e z.symm, decide_eq_false_iff_not] at h2
      omega
/-- into its place, the greatest ahead -/
def insD (x : List Int) : List (List Int) → List (List Int)
  | [] => [x]
  | y :: r => match HT.lexLt x y with | true => y :: insD x r | false => x :: y :: r
def sortD : List (List Int) → List (List Int)
  | [] => []
  | x :: r => insD x (sortD r)
theorem insD_perm (x : List Int) : ∀ l, (insD x l).Perm (x :: l)
  | [] => .refl _
  | y :: r => by
    unfold insD
    cases HT.lexLt x y with
    | true => exact ((insD_perm x r).cons y).trans (.swap x y r)
    | false => exact .refl _
theorem sortD_perm : ∀ l, (sortD l).Perm l
  | [] => .refl _
  | x :: r => (insD_perm x (sortD r)).trans ((sortD_perm r).cons x)
theorem insD_ord (x : List Int) : ∀ l : List (List Int), OrdL true l → OrdL true (insD x l)
  | [], _ => List.pairwise_singleton _ _
  | y :: r, h => by
    obtain ⟨h1, h2⟩ := List.pairwise_cons.mp h
    unfold insD
    cases q : HT.lexLt x y with
    | true =>
      refine List.pairwise_cons.mpr ⟨fun z hz => ?_, insD_ord x r h2⟩
      rcases List.mem_cons.mp ((insD_perm x r).mem_iff.mp hz) with e | e
      · subst e
        exact NtL.lex_asym _ _ q
      · exact h1 z e
    | false =>
      refine List.pairwise_cons.mpr ⟨fun z hz => ?_, h⟩
      rcases List.mem_cons.mp hz with e | e
      · subst e
        exact q
      · have a : HT.lexLt y z = false := h1 z e
        exact NtL.lex_tr z y x a q
theorem sortD_ord : ∀ l, OrdL true (sortD l)
  | [] => List.Pairwise.nil
  | x :: r => insD_ord x _ (sortD_ord r)
theorem sortD_one {l m : List (List Int)} (p : m.Perm l) (h : OrdL true m) : m = sortD l :=
  perm_uniq (fun x y a b => lex_anti x y a b) (p.trans (sortD_perm l).symm) h (sortD_ord l)
def keyInts : List Key → Option (List Int)
  | [] => some []
  | .inl i :: r => (match keyInts r with | some l => some (i :: l) | none => none)
  | .inr _ :: _ => none
theorem keyInts_of : ∀ {k : List Key} {ns : List Int}, keyInts k = some ns → k = ns.map Sum.inl
  | [], _, h => by cases h; rfl
  | .inl i :: r, ns, h => by
    unfold keyInts at h
    split at h
    · rename_i l q
      cases h
      rw [keyInts_of q]
      rfl
    · cases h
  | .inr _ :: _, _, h => by cases h
theorem keysInts_of : ∀ {ks : List (List Key)} {nss : List (List Int)}, mapO keyInts ks = some nss → ks = nss.map (·.map Sum.inl)
  | [], _, h => by cases h; rfl
  | k :: r, nss, h => by
    unfold mapO at h
    split at h
    · rename_i y q
      split at h
      · rename_i ys q2
        cases h
        rw [List.map_cons, ← keyInts_of q, ← keysInts_of q2]
      · cases h
    · cases h
def tupI (ns : List Int) : U := .tup (ns.map .int)
/-- sorted(x, reverse=d), x a dict whose keys are tuples of ints -/
def kSortedDT (x d : U) (h : List UO) : Rs U := match d with
  | .bl true => (match x with
    | .ref i => (match h[i]? with
      | some (.dt acc) => (match mapO keyInts (acc.map (·.1)) with
        | some nss => (match Nat.blt nss.length 2 || nss.all (fun ns => !ns.isEmpty) with | true => .ok (.fl ((sortD nss).map tupI)) h | false => .no)
        | none => .no)
      | _ => .no)
    | _ => .no)
  | _ => .no
theorem rl_tups {G : Cfg} {w : Wd} : ∀ {nss : List (List Int)} {bs : List Addr}, Paired (fun (ns : List Int) c => w.H c = some (.tup (ns.map V.int))) nss bs → RL G w (nss.map tupI) (bs.map V.ref)
  | _, _, .nil => .nil
  | _, _, .cons h t => .cons (.tup (.new h) RL.ints) (rl_tups t)
theorem f_sortedDT {X : Cx} {G : Cfg} {W : WX} {a b : Expr} {fa fb : Ev} {pos p kp : Pos} (hc : X.calm = true) (hg : Gl X "sorted") (hm : X.mg "sorted" = none) (ha : PE X a (tE G fa W)) (hb : PE X b (tE G fb W))
    (na : starEach [a] X.env = (false, eval a X.env) :: starEach [] X.env := by rfl) (he : backTo pos (starEach [a] X.env) = (false, eval a X.env) :: backTo pos (starEach [] X.env) := by rfl) (hpl : (backTo pos (starEach [a] X.env)).any (·.1) = false := by rfl)
    (hall : (backToKw pos (keywordEach [⟨some "reverse", b, kp⟩] X.env)).all (·.1.isSome) = true := by rfl) (hnone : (backToKw pos (keywordEach [⟨some "reverse", b, kp⟩] X.env)).any (·.1.isNone) = false := by rfl) (hks : (backToKw pos (keywordEach [⟨some "reverse", b, kp⟩] X.env)).filterMap (·.1) = [Str.ofString "reverse"] := by rfl) :
    PE X (.Call (.Name "sorted" p) [a] [⟨some "reverse", b, kp⟩] pos) (tE G (e2 kSortedDT fa fb) W) :=
  PE.imp (pe_callBK (r := rSortedDT true) (cr_sortedDT hc) hg hm (by decide +kernel) (pa_cons ha pa_nil na) (pk_cons hb pk_nil) (he := he) (hpl := hpl) (hall := hall) (hnone := hnone) (hks := hks)) fun σ H Q h => by
    refine two_of (r := fun x y H Q => rSortedDT true [x] [y] H Q) ?_ h
    intro w σ W x y va vb Q m rx ry h
    unfold kSortedDT at h
    split at h
    · cases ry
      split at h
      · rename_i i
        split at h
        · rename_i acc hacc
          split at h
          · rename_i nss qn
            split at h
            · rename_i hne
              cases rx with
              | ref hr =>
                cases m.obj i _ _ hr hacc with
                | dt hH l =>
                  rename_i vs
                  have hlen : (acc.map (·.1)).length = vs.length := by
                    have := l.length
                    rw [List.length_map] at this ⊢
                    exact this
                  refine ⟨_, _, nss, rfl, rfl, hH, ?_, fun h2 ns hn => ?_, fun p bs nss' hp pm ho pk => ?_⟩
                  · rw [List.map_fst_zip (by omega)]
                    exact keysInts_of qn
                  · rw [Bool.or_eq_true] at hne
                    rcases hne with z | z
                    · exact absurd (Nat.le_of_ble_eq_true z) (by omega)
                    · intro e
                      have := List.all_eq_true.mp z ns hn
                      rw [e] at this
                      cases this
                  · have e := sortD_one pm ho
                    subst e
                    exact h.newF m (rl_tups pk) hp
            · exact h.elim
          · exact h.elim
        · exact h.elim
      · exact h.elim
    · exact h.elim
end Fn
/-! dicts whose keys are tuples: {}, {k: v}, d[k], d.get(k, x), d[k] = v, list(d) -/
namespace L2
open PySem PySem.Spec PyProof.Rows
def tDisp1T (tk tv : TE) : TE := fun σ H Q => ∀ p, H p = none → tPairs [(tk, tv)] σ (upd H p (.dT [])) fun ps H2 => H2 p = some (.dT []) ∧ ∃ (b : Addr) (k : List Key) (y : V), ps = [(.ref b, y)] ∧ H2 b = some (.tup (k.map kV)) ∧ Q (.ref p) (upd H2 p (.dT [(k, y)]))
theorem pe_disp1T {X : Cx} {pos : Pos} {k v : Expr} {tk tv : TE} (hu : X.A.units + 1 < cLine) (hk : PE X k tk) (hv : PE X v tv) : PE X (.Dict [some k] [v] pos) (tDisp1T tk tv) := by
  refine ⟨fun pins s σ H Q I q => ?_⟩
  have hn := I.hok.fresh (Nat.le_refl s.heap.objs.size)
  have I1 := I.laid (a := s.heap.objs.size) (o := .dT []) (h' := s.heap.push { cls := .type "dict", data := .dict #[] }) (t' := s.toks) (fun _ _ q => Heap.get?_push_of_some _ q) (Nat.le_refl _) (dt_empty s.heap I.big)
  have hl := pairTrees_length [some k] [v] X.env pos rfl rfl
  have hl1 : (pairTrees [some k] [v] X.env pos).length = 1 := hl
  rw [arm_eval_Dict, zip_pairTrees [some k] [v] X.env pos rfl rfl, dictDisplay_pairs _ (fun e => by rw [e] at hl1; cases hl1) (by omega)]
  refine wpAny_bind (wpAny_standAt (wpAny_bind (wpAny_subDictH (knd := tupleKind (mixKind X.prog X.w)) (Q := fun d s' => wpAny (model X.prog X.w) X.A (pure (Value.ref d)) (EP X pins σ Q) X.xe s') (show _ from Nat.lt_of_succ_lt hu) (by omega)
    (thn ((pps_cons hk hv pps_nil).run pins _ σ _ _ I1 (q _ hn)) fun ws s2 ⟨ps, H2, I2, rel, e, b, ky, y, ep, hb, q2⟩ => ?_))))
  subst ep
  cases rel with
  | @cons _ wv _ _ h t =>
    cases t
    obtain ⟨wk, wy⟩ := wv
    obtain ⟨h1, h2⟩ := h
    cases (show wk = Value.ref b from h1)
    obtain ⟨z, hd, xs, r0, dd⟩ := dt_of I2.hok e
    cases r0
    refine ⟨[(ky, b, wy)], ⟨rfl, rfl, key_of I2.hok hb, trivial⟩, dd, fun h' tk dd' hs => wpAny_pure ⟨.ref s.heap.objs.size, _, ?_, rfl, q2⟩⟩
    obtain ⟨o, es, epo, hq, x2, x3, x4, _, x5⟩ := dd'
    refine (d_write I2 (by rw [e]; exact True.intro) hs ⟨o, hq⟩ ⟨by show 1 ≤ sizeLine; decide, hd, _, ?_, o, es, epo, hq, x2, x3, x4, x5⟩)
    refine Paired.cons ⟨rfl, ?_, h2⟩ Paired.nil
    rw [upd_ne (ne_of hb e (fun z => nomatch z))]
    exact hb
end L2
/-! dicts whose keys are tuples, by own evaluators -/
namespace Fn
open PySem L2 PySem.Spec PyProof.Rows
theorem kV_inj : ∀ {a b : Key}, kV a = kV b → a = b
  | .inl _, .inl _, h => by cases h; rfl
  | .inr _, .inr _, h => by cases h; rfl
  | .inl _, .inr _, h => by cases h
  | .inr _, .inl _, h => by cases h
theorem kVs_inj : ∀ {a b : List Key}, a.map kV = b.map kV → a = b
  | [], [], _ => rfl
  | [], _ :: _, h => by cases h
  | _ :: _, [], h => by cases h
  | x :: r, y :: s, h => by
    rw [List.map_cons, List.map_cons] at h
    injection h with h1 h2
    rw [kV_inj h1, kVs_inj h2]
/-- a tuple as a key; those of bad are refused -/
def keyT (bad : List (List Key)) : U → Option (List Key)
  | .tup us => (match mapO keyU us with
    | some k => (match bad.any (fun b => decide (b = k)) with | true => none | false => some k)
    | none => none)
  | _ => none
def Kts (G : Cfg) (bad : List (List Key)) : Prop := ∀ vs, G.kt vs → ∃ k ∈ bad, vs = k.map kV
section
variable {G : Cfg} {w : Wd}
theorem keys_of : ∀ {us : List U} {vs : List V} {k : List Key}, RL G w us vs → mapO keyU us = some k → vs = k.map kV
  | _, _, _, .nil, h => by cases h; rfl
  | _, _, _, .cons r t, h => by
    unfold mapO at h
    split at h
    · rename_i y q
      split at h
      · rename_i ys q2
        cases h
        rw [List.map_cons, ← keyU_of r q, ← keys_of t q2]
      · cases h
    · cases h
theorem keyT_of {bad : List (List Key)} (hb : Kts G bad) {u : U} {v : V} {k : List Key} (r : R G w u v) (h : keyT bad u = some k) : ∃ b, v = .ref b ∧ w.H b = some (.tup (k.map kV)) := by
  cases r with
  | tup h1 l =>
    unfold keyT at h
    dsimp only at h
    split at h
    · rename_i k1 q
      split at h
      · cases h
      · rename_i q2
        cases h
        have e := keys_of l q
        subst e
        refine ⟨_, rfl, h1.2.resolve_left fun z => ?_⟩
        obtain ⟨k', m1, m2⟩ := hb _ z
        have := kVs_inj m2
        subst this
        have := List.any_eq_false.mp q2 k m1
        simp at this
    · cases h
  | _ => cases h
theorem RK.val_none {κ : Type} [DecidableEq κ] {k : κ} : ∀ {us : List (κ × U)} {vs : List (κ × V)}, RK G w us vs → valU us k = none → valV vs k = none
  | _, _, .nil, _ => rfl
  | _, _, @RK.cons _ _ _ k' u' v' _ _ r t, e => by
    unfold valU at e
    split at e
    · cases e
    · rename_i q
      have q : ¬ k' = k := of_decide_eq_false q
      rw [valV_neg (p := (k', v')) q]
      exact RK.val_none t e
/-- d[k] = v of the p-th own object -/
def putT (bad : List (List Key)) (o ku vu : U) (h : List UO) : Rs Unit := match o, keyT bad ku with
  | .ref p, some k => (match h[p]? with
    | some (.dt acc) => (match Nat.blt acc.length 16777216 with | true => .ok () (h.set p (.dt (putU acc k vu))) | false => .no)
    | _ => .no)
  | _, _ => .no
theorem putT_of {bad : List (List Key)} {o ku vu : U} {vo vk vv : V} {h' : List UO} (hb : Kts G bad) (m : Sm G w) (ro : R G w o vo) (rk : R G w ku vk) (rv : R G w vu vv) (h : putT bad o ku vu w.h = .ok () h') :
    ∃ D H', vo = .ref D ∧ DPut w.H D vk vv H' ∧ ∃ w' : Wd, w'.H = H' ∧ w'.h = h' ∧ Ext w w' ∧ Sm G w' := by
  unfold putT at h
  split at h
  · rename_i p k hk
    split at h
    · rename_i acc hp
      split at h
      · rename_i hz
        cases h
        cases ro with
        | @ref _ D hr =>
          cases m.obj _ _ _ hr hp with
          | @dt _ ws hv l =>
            obtain ⟨b, rfl, hbb⟩ := keyT_of hb rk hk
            have l2 := RK.of l
            have e : Ext w (w.put p D (.dt (putU acc k vu)) (.dT (putK ((acc.map (·.1)).zip ws) k vv))) := Ext.put m hr hp
            refine ⟨D, _, rfl, .t hv hbb ?_, _, rfl, rfl, e, m.put hr hp ?_⟩
            · rw [← l2.length, sizeLine_eq]
              exact Nat.le_of_ble_eq_true hz
            · obtain ⟨q1, q2⟩ := ((l2.put k rv).up m e).zip
              exact .dt (by rw [← q1]; exact upd_same) q2
      · cases h
    · cases h
  · cases h
end
section
variable {X : Cx} {G : Cfg} {W : WX} {bad : List (List Key)} {a b c e : Expr} {fa fb fc fe : Ev} {pos tpos : Pos} {kk : Nat}
/-- {}, to be a dict with tuples as keys -/
def eDnewT : Ev := fun _ h => .ok (.ref h.length) (h ++ [.dt []])
theorem newDT {w : Wd} {p : Addr} (m : Sm G w) (hp : w.H p = none) : ∃ w' : Wd, w'.h = w.h ++ [.dt []] ∧ w'.H = upd w.H p (.dT []) ∧ Ext w w' ∧ Sm G w' ∧ R G w' (.ref w.h.length) (.ref p) :=
  toTrackedO (o := .dt []) (Ext.newZ (o := .dT []) hp) (m.newZ hp) (fun w'' le => .dt (vs := []) (by rw [le.H]; exact upd_same) .nil) hp (.inr rfl) (m.free_r hp)
theorem f_dnewT : PE X (.Dict [] [] pos) (tE G eDnewT W) := PE.imp pe_dnewT fun σ _ Q ⟨us, w, e, m, sl, h⟩ => by
  subst e
  intro p hp
  obtain ⟨w', h1, h2, e1, m1, r⟩ := newDT m hp
  rw [← h2]
  exact h w' _ h1 e1 m1 r
/-- {k: v} -/
def eDisp1T (bad : List (List Key)) (fk fv : Ev) : Ev := fun us h => (fk us (h ++ [.dt []])).bind fun k h1 => (fv us h1).bind fun v h2 => match keyT bad k, h2[h.length]? with
  | some ky, some (.dt []) => .ok (.ref h.length) (h2.set h.length (.dt [(ky, v)]))
  | _, _ => .no
theorem f_disp1T (hb : Kts G bad) (hr : Room kk X.A) (ha : PE X a (tE G fa W)) (hc : PE X c (tE G fc W)) : PE X (.Dict [some a] [c] pos) (tE G (eDisp1T bad fa fc) W) :=
  PE.imp (pe_disp1T (hu_of hr) ha hc) fun σ _ Q ⟨us, w, e, m, sl, h⟩ => by
    subst e
    intro p hp
    obtain ⟨w', h1, h2, e1, m1, r⟩ := newDT m hp
    unfold eDisp1T at h
    rw [← h1] at h
    rw [← h2]
    refine ⟨us, w', rfl, m1, sl.up m e1, (Pt.bind (Rel := R G) (Pt.weak e1 h)).imp ?_⟩
    rintro x H1 ⟨w1, u, rfl, e2, m2, r2, h3⟩
    refine ⟨us, w1, rfl, m2, sl.up m (e1.trans e2), (Pt.bind (Rel := R G) h3).imp ?_⟩
    rintro y H2 ⟨w2, v, rfl, e3, m3, r3, h4⟩
    have r := (r.up m1 e2).up m2 e3
    have r2 := r2.up m2 e3
    split at h4
    · rename_i ky hk hq
      cases r with
      | ref hr =>
        cases m3.obj _ _ _ hr hq with
        | @dt _ ws hv l =>
          cases l
          obtain ⟨b, rfl, hbb⟩ := keyT_of hb r2 hk
          refine ⟨hv, b, ky, _, rfl, hbb, ?_⟩
          have e : Ext w2 (w2.put w.h.length p (.dt [(ky, v)]) (.dT [(ky, y)])) := Ext.put m3 hr hq
          refine h4 _ _ rfl e (m3.put hr hq (.dt (vs := [y]) upd_same ((RL.cons r3 .nil).up m3 e))) (.ref (e.get hr))
    · exact h4.elim
/-- d[k] -/
def kDgetT (bad : List (List Key)) (x y : U) (h : List UO) : Rs U := match x, keyT bad y with
  | .ref p, some k => (match h[p]? with | some (.dt kvs) => (match valU kvs k with | some u => .ok u h | none => .no) | _ => .no)
  | _, _ => .no
theorem f_dgetT (hbd : Kts G bad) (hr : Room kk X.A) (ha : PE X a (tE G fa W)) (hb : PE X b (tE G fb W)) (hs : NoSl b := by exact fun _ _ => rfl) : PE X (.Subscript a b pos) (tE G (e2 (kDgetT bad) fa fb) W) :=
  PE.imp (pe_dget (hu_of hr) ha hb hs) fun σ _ Q ⟨us, w, e, m, sl, h⟩ => by
    subst e
    refine ⟨us, w, rfl, m, sl, (Pt.bind (Rel := R G) h).imp ?_⟩
    rintro x H1 ⟨w1, u, rfl, e1, m1, r1, h1⟩
    refine ⟨us, w1, rfl, m1, sl.up m e1, (Pt.bind (Rel := R G) h1).imp ?_⟩
    rintro y H2 ⟨w2, v, rfl, e2, m2, r2, h2⟩
    have r1 := r1.up m1 e2
    unfold kDgetT at h2
    split at h2
    · rename_i k hk _
      cases r1 with
      | @ref _ d hr =>
        split at h2
        · rename_i kvs q
          split at h2
          · rename_i u q2
            cases m2.obj _ _ _ hr q with
            | @dt _ ws hv l =>
              obtain ⟨vv, q3, rv⟩ := (RK.of l).val q2
              obtain ⟨b, rfl, hbb⟩ := keyT_of hbd r2 hk
              exact ⟨d, vv, rfl, q3 ▸ .t hv hbb, h2.val m2 rv⟩
          · exact h2.elim
        · exact h2.elim
    · exact h2.elim
/-- d.get(k, x) -/
def eDget2T (bad : List (List Key)) (fa fb fc : Ev) : Ev := fun us h => (fa us h).bind fun x h1 => match x with
  | .ref p => (match h1[p]? with
    | some (.dt _) => (fb us h1).bind fun y h2 => (fc us h2).bind fun z h3 => (match keyT bad y, h3[p]? with
      | some k, some (.dt kvs) => .ok ((valU kvs k).getD z) h3
      | _, _ => .no)
    | _ => .no)
  | _ => .no
theorem f_dget2T {apos cpos : Pos} (hbd : Kts G bad) (hr : Room kk X.A) (ha : PE X a (tE G fa W)) (hb : PE X b (tE G fb W)) (hc : PE X c (tE G fc W)) (m2 : M2 X a "get" apos b c cpos) : PE X (.Call (.Attribute a "get" apos) [b, c] [] cpos) (tE G (eDget2T bad fa fb fc) W) :=
  PE.imp (pe_dget2 (hu_of hr) ha hb hc m2) fun σ _ Q ⟨us, w, e, m, sl, h⟩ => by
    subst e
    refine ⟨us, w, rfl, m, sl, (Pt.bind (Rel := R G) h).imp ?_⟩
    rintro x H1 ⟨w1, u, rfl, e1, m1, r1, h1⟩
    split at h1
    · rename_i p
      split at h1
      · rename_i acc q
        cases r1 with
        | @ref _ d hr =>
          refine ⟨d, rfl, ?_, us, w1, rfl, m1, sl.up m e1, (Pt.bind (Rel := R G) h1).imp ?_⟩
          · cases m1.obj _ _ _ hr q with
            | dt hv l => exact .inr ⟨_, .inl hv⟩
          rintro y H2 ⟨w2, v, rfl, e2, m2, r2, h2⟩
          refine ⟨us, w2, rfl, m2, (sl.up m e1).up m1 e2, (Pt.bind (Rel := R G) h2).imp ?_⟩
          rintro z H3 ⟨w3, z', rfl, e3, m3, r3, h3⟩
          have r2 := r2.up m2 e3
          have hr := e3.get (e2.get hr)
          split at h3
          · rename_i k kvs hk q3
            cases m3.obj _ _ _ hr q3 with
            | @dt _ ws hv l =>
              obtain ⟨b, rfl, hbb⟩ := keyT_of hbd r2 hk
              refine ⟨_, .t hv hbb, ?_⟩
              cases qv : valU kvs k with
              | none =>
                rw [(RK.of l).val_none qv]
                rw [qv] at h3
                exact h3.val m3 r3
              | some u =>
                obtain ⟨vv, q4, rv⟩ := (RK.of l).val qv
                rw [q4]
                rw [qv] at h3
                exact h3.val m3 rv
          · exact h3.elim
      · exact h1.elim
    · exact h1.elim
/-- d[k] = v -/
def gPutT (bad : List (List Key)) (fo fi fv : Ev) : Sv := fun us h => (fv us h).then us fun v h1 => (fo us h1).then us fun o h2 => (fi us h2).then us fun i h3 => (putT bad o i v h3).then us fun _ h4 => .nx us h4
theorem s_dputT {o i : Expr} {fo fi : Ev} (hbd : Kts G bad) (hr : Room kk X.A) (he : PE X e (tE G fe W)) (ho : PE X o (tE G fo W)) (hi : PE X i (tE G fi W))
    (hs : swapsWith e (some (.Subscript o i tpos)) pos.line X.env = pure false := by rfl) : PS X (.Assign [.Subscript o i tpos] e pos) (tS G (gPutT bad fo fi fe) W) :=
  PS.imp (ps_dput (hu_of hr) ho hi he hs) fun D σ _ ⟨us, w, e, m, sl, h⟩ => by
    subst e
    refine ⟨us, w, rfl, m, sl, (PtS.then m sl h).imp ?_⟩
    rintro v H1 ⟨w1, uv, rfl, e1, m1, r1, sl1, h1⟩
    refine ⟨us, w1, rfl, m1, sl1, (PtS.then (Rel := R G) m1 sl1 h1).imp ?_⟩
    rintro ov H2 ⟨w2, uo, rfl, e2, m2, r2, sl2, h2⟩
    refine ⟨us, w2, rfl, m2, sl2, (PtS.then (Rel := R G) m2 sl2 h2).imp ?_⟩
    rintro iv H3 ⟨w3, ui, rfl, e3, m3, r3, sl3, h3⟩
    have r2 := r2.up m2 e3
    have r1 := r1.up m1 (e2.trans e3)
    cases q : putT bad uo ui uv w3.h with
    | ok a h' =>
      rw [q] at h3
      obtain ⟨D1, H', rfl, dp, w4, rfl, x2, x3, x4⟩ := putT_of hbd m3 r2 r3 r1 q
      exact ⟨D1, _, rfl, dp, h3 w4 σ x2 x3 x4 (sl3.up m3 x3)⟩
    | ex x h' =>
      unfold putT at q
      split at q
      · split at q
        · split at q <;> cases q
        · cases q
      · cases q
    | no => rw [q] at h3; exact h3.elim
/-- list(d): its keys -/
def keyB : Key → U | .inl i => .int i | .inr x => .str x
def tupK (k : List Key) : U := .tup (k.map keyB)
def eListDT (fa : EvA) : EvL := fun us h => (fa us h).bind fun xs h1 => match xs with
  | [.ref p] => (match h1[p]? with | some (.dt kvs) => .ok (kvs.map fun p => tupK p.1) h1 | _ => .no)
  | _ => .no
theorem r_key {w : Wd} : ∀ k : Key, R G w (keyB k) (kV k)
  | .inl i => .int i
  | .inr x => .str x
theorem rl_key {w : Wd} : ∀ k : List Key, RL G w (k.map keyB) (k.map kV)
  | [] => .nil
  | x :: r => .cons (r_key x) (rl_key r)
theorem rl_keys {w : Wd} : ∀ {kvs : List (List Key × U)} {ws : List V} {bs : List Addr}, IsKeys w.H ((kvs.map (·.1)).zip ws) bs → kvs.length = ws.length → RL G w (kvs.map fun p => tupK p.1) (bs.map V.ref)
  | [], _, _, h, _ => by
    cases h
    exact .nil
  | p :: r, [], _, _, e => by cases e
  | p :: r, v :: ws, _, h, e => by
    cases h with
    | cons h1 h2 => exact .cons (.tup (.new h1) (rl_key _)) (rl_keys h2 (by simpa using e))
theorem f_listDT {p : Pos} (hc : X.calm = true) (hg : Gl X "list") (hm : X.mg "list" = none) (ha : PA X [e] (tA G fA W)) (he : starEach [e] X.env = (false, eval e X.env) :: starEach [] X.env := by rfl) : PE X (.Call (.Name "list" p) [e] [] pos) (tN G (eListDT fA) W) :=
  PE.imp (pe_callTy (call_list_dT hc) hg hm (by decide +kernel) ha (he := he)) fun σ _ Q ⟨us, w, e, m, sl, h⟩ => by
    subst e
    refine ⟨us, w, rfl, m, sl, (PtN.bind h).imp ?_⟩
    rintro vs H1 ⟨w1, xs, rfl, e1, m1, r1, h1⟩
    split at h1
    · rename_i q
      split at h1
      · rename_i kvs q2
        cases r1 with
        | cons r t =>
          cases t
          cases r with
          | @ref _ d hr =>
            cases m1.obj _ _ _ hr q2 with
            | @dt _ ws hv l =>
              refine ⟨d, _, rfl, .inl hv, fun p bs hp hk => newL e1 m1 (rl_keys hk ?_) rfl h1 hp⟩
              rw [← l.length, List.length_map]
      · exact h1.elim
    · exact h1.elim
end
/-! ### sum of a list or a tuple -/
def rSumA (K : PySem.W.Frag) : List V → Hp → VK → Prop := fun vs H Q => ∃ (a : Addr) (ns : List Int), vs = [V.ref a] ∧ (SqL K H a (ns.map V.int) ∨ SqT K H a (ns.map V.int)) ∧ Q (.int ns.sum) H
theorem cr_sumA {X : Cx} (hc : X.calm = true) : CallR X (.builtin "sum") (rSumA X.K) := by
  intro pins s σ H vs us Q I r h
  obtain ⟨a, ns, rfl, hs | hs, q⟩ := h
  · exact cr_sum hc pins s σ H _ us Q I r ⟨a, ns, rfl, hs, q⟩
  · obtain ⟨its, rv, hl, _⟩ := I.tuple hs
    rw [Vals.ref1 r]
    have hi := rv.ints
    obtain ⟨xs, e⟩ := hi.allInts.items
    have hn : numsOf (intItems xs).toList = ns := by rw [← e]; exact hi.numsOf
    rw [nums_intItems] at hn
    rw [e] at hl
    refine PySem.W.ktm_sumG (I.ok.hd hc) hl fun h' tk t' hk => ?_
    rw [preSum_eq, List.take_of_length_le (by simp), hn]
    exact ⟨.int _, H, I.kept hk, ⟨_, rfl⟩, q⟩
def kSumA (xs : List U) (h : List UO) : Rs U := match xs with
  | [u] => (match seqU h u with | some xs => (match toInts xs with | some ns => .ok (.int (sumI ns)) h | _ => .no) | none => .no)
  | _ => .no
theorem ok_sumA {G : Cfg} : OpC G (rSumA G.K) kSumA := by
  intro w σ W xs vs Q m l h
  unfold kSumA at h
  split at h
  · rename_i u
    split at h
    · rename_i ys q
      split at h
      · rename_i ns q2
        cases l with
        | cons r t =>
          cases t
          obtain ⟨p, vs, rfl, hs, l⟩ := seqU_of m r q
          obtain ⟨rfl, _⟩ := toInts_of l q2
          refine ⟨p, ns, rfl, hs, ?_⟩
          rw [← sumI_eq]
          exact h.int m
      · exact h.elim
    · exact h.elim
  · exact h.elim
theorem f_sumA {X : Cx} {G : Cfg} {W : WX} {e : Expr} {fa : EvA} {pos p : Pos} (hK : X.K = G.K) (hc : X.calm = true) (hg : Gl X "sum") (hm : X.mg "sum" = none) (ha : PA X [e] (tA G fa W)) (he : starEach [e] X.env = (false, eval e X.env) :: starEach [] X.env := by rfl) : PE X (.Call (.Name "sum" p) [e] [] pos) (tE G (eCall kSumA fa) W) :=
  f_callB (r := rSumA X.K) (cr_sumA hc) (hK ▸ ok_sumA) hg hm (by decide +kernel) ha (he := he)
end Fn
/-! a tuple whose object is known without a dict: its method index -/
namespace L2
open PySem PySem.Spec PyProof.Rows
theorem call_tuple_ofX {X : Cx} : CallR X (.type "tuple") (fun xs H Q => ∃ p ys, xs = [.ref p] ∧ SqL X.K H p ys ∧ ∀ (l : Addr) (o : Obj), o.dict = none → H l = none → Q (.ref l) (upd H l (.frz o (.tup ys)))) := by
  intro pins s σ H xs us Q I r h
  obtain ⟨p, ys, rfl, hq, q⟩ := h
  obtain ⟨u, rfl, rx⟩ := vals1 r
  cases rx
  obtain ⟨its, r', pl, hz⟩ := I.list hq
  have hlen := r'.length
  refine call_tuple_list pl.isList (fun h' kp => ?_) (by simp only [List.size_toArray] <;> omega)
  have I1 : Inv X pins σ H { s with heap := h' } := I.kept (t' := s.toks) kp
  have I2 : Inv X pins σ (upd H h'.objs.size (.frz { cls := .type "tuple", data := .seq its.toArray } (.tup ys))) { s with heap := h'.push { cls := .type "tuple", data := .seq its.toArray } } :=
    I1.laid (t' := s.toks) (fun b o e => Heap.get?_push_of_some _ e) (Nat.le_refl _) (show ObjOk X.prog X.w _ _ _ (.frz _ (.tup ys)) from ⟨Heap.get?_push_size _ rfl, hz, its, r', IsTup.new _ _⟩)
  exact ⟨.ref h'.objs.size, _, I2, rfl, q _ _ rfl (I1.hok.fresh (Nat.le_refl _))⟩
def tyX (x : V) (H : Hp) : Prop := ∃ p o xs, x = .ref p ∧ H p = some (.frz o (.tup xs)) ∧ o.dict = none
theorem tyX_is {X : Cx} {pins : List (Addr × Obj)} {σ : St} {H : Hp} {s : Shared} {x : V} {v : Value} (I : Inv X pins σ H s) (r : RelV x v) (ty : tyX x H) :
    s.TypeIs v "tuple" ∧ ∀ a, v = .ref a → ∃ ob, s.heap.get? a = some ob ∧ ob.dict = none := by
  obtain ⟨p, o, xs, rfl, h, hd⟩ := ty
  cases r
  obtain ⟨e, z, its, rv, o', e', c, n, d⟩ := (show ObjOk X.prog X.w H s.heap p (.frz o (.tup xs)) from I.hok p _ h)
  exact ⟨⟨o', e', c⟩, fun a ea => by cases ea; exact ⟨o, e, hd⟩⟩
def tBMX (r : V → List V → Hp → VK → Prop) (to : TE) (t : TA) : TE := fun σ H Q => to σ H fun x H1 => tyX x H1 ∧ t σ H1 fun xs H2 => r x xs H2 Q
theorem pe_bmX {X : Cx} {o e : Expr} {es : List Expr} {to : TE} {t : TA} {name : Str} {apos cpos : Pos} {id : String} {r : V → List V → Hp → VK → Prop} (pa : PlainAttrs "tuple") (slot : Slot "tuple" name id) (hty : typeOf (.builtin id) = pure (.type "method_descriptor")) (hm : MtR X id r) (ho : PE X o to) (ha : PA X (e :: es) t)
    (hbase : attributeBase o name X.env (eval o X.env) = eval o X.env := by rfl)
    (hfew : ((backTo cpos (starEach (e :: es) X.env)).all (fun x => !x.1) && (backToKw cpos (keywordEach [] X.env)).all (fun x => x.1.isSome)
      && decide ((e :: es).length + ([] : List Keyword).length + (if ([] : List Keyword).isEmpty then 0 else 1) < 30)) = true := by rfl)
    (hline : (apos.endLine == cpos.line) = true := by rfl) (hs : starEach (e :: es) X.env = (false, eval e X.env) :: starEach es X.env := by rfl) (hplain : (backTo cpos (starEach es X.env)).any (·.1) = false := by rfl) :
    PE X (.Call (.Attribute o name apos) (e :: es) [] cpos) (tBMX r to t) := by
  refine ⟨fun pins s σ H Q I h => ?_⟩
  refine wpAny_Call_method_late hbase hfew hline rfl (thn (ho.run pins s σ H _ I h) fun v s1 ⟨x, H1, I1, r1, ty, q1⟩ => ?_)
  obtain ⟨h1, h2⟩ := tyX_is I1 r1 ty
  refine ⟨"tuple", id, pa, slot, hty, h1, h2, ?_⟩
  have hA := ha.run cpos pins s1 σ H1 _ I1 q1
  rw [hs] at hA ⊢
  refine Calls.callWith_builtin (by show (false || (backTo cpos (starEach es X.env)).any (·.1)) = false; rw [hplain] <;> rfl) (Calls.evalArgs_plain ?_)
  exact thn hA fun us s2 ⟨vs, H2, I2, r2, q2⟩ => hm pins s2 σ H2 x vs v us Q I2 r1 r2 q2
def rIndexT (K : PySem.W.Frag) : V → List V → Hp → VK → Prop := fun x xs H Q => ∃ (a : Addr) (ys : List V) (y : V) (j : Nat) (z : V), x = V.ref a ∧ xs = [y] ∧ SqT K H a ys ∧ flatV y = true ∧ ys.all flatV = true ∧ ys[j]? = some z ∧ eqV z y = true ∧
  (∀ (m : Nat) (z' : V), m < j → ys[m]? = some z' → eqV z' y = false) ∧ Q (.int (j : Nat)) H
theorem mt_indexT {X : Cx} : MtR X "tuple.index" (rIndexT X.K) := by
  intro pins s σ H x xs v us Q I rx rxs h
  obtain ⟨a, ys, y, j, z, rfl, rfl, hs, fy, fys, hz, hzj, hno, q⟩ := h
  cases rx
  cases rxs with
  | cons ry rt =>
    rename_i uy ut
    cases rt
    obtain ⟨its, rv, ⟨⟨cls, dd, data, sl⟩, ho, hc, n, hd⟩, hlen⟩ := I.tuple hs
    simp only at hc hd
    subst hc hd
    obtain ⟨u, hu, ru⟩ := rv.get hz
    obtain ⟨hjl, hje⟩ := List.getElem?_eq_some_iff.mp hu
    have hvl := rv.length
    have hj : j < its.toArray.size := by simpa using hjl
    refine call_meets PySem.F.slot_tuple_index ⟨_, ho, rfl⟩ PySem.F.entry_tuple_index (PySem.F.args_tuple_index_2 _ _)
      (TI.tuple_indexAt a its.toArray n dd sl uy (eqU y) j hj ?_ ?_) ⟨ho, fun u' hu' => mem_eqAt ry fy rv fys u' (by simpa using hu'), ?_⟩
    · have e1 : its.toArray[j] = u := by simpa using hje
      rw [e1, eqU_of ru (flat_at fys hz)]
      exact hzj
    · intro m hm hmj
      have hml : m < its.length := by simpa using hm
      have hmy : m < ys.length := by omega
      have hy' : ys[m]? = some ys[m] := List.getElem?_eq_getElem hmy
      obtain ⟨u2, hu2, ru2⟩ := rv.get hy'
      obtain ⟨_, hme⟩ := List.getElem?_eq_some_iff.mp hu2
      have e1 : its.toArray[m] = u2 := by simpa using hme
      rw [e1, eqU_of ru2 (flat_at fys hy')]
      exact hno m _ hmj hy'
    · exact ⟨.int (j : Nat), H, I.tok _, ⟨_, rfl⟩, q⟩
end L2
namespace Fn
open PySem L2 PySem.Spec PyProof.Rows
/-- a known tuple as any tuple -/
def unX : U → U | .tx xs => .tup xs | u => u
def eUnX (f : Ev) : Ev := fun us h => (f us h).bind fun u h1 => .ok (unX u) h1
section
variable {X : Cx} {G : Cfg} {W : WX} {o e : Expr} {fo f : Ev} {fa : EvA} {p pos apos cpos : Pos}
theorem R.unX {w : Wd} (hk : ∀ vs, G.kt vs) {u : U} {v : V} (r : R G w u v) : R G w (unX u) v := by
  cases r with
  | tx h d l => exact .tup ⟨.inl (.inr ⟨_, h⟩), .inl (hk _)⟩ l
  | non => exact .non
  | bl b => exact .bl b
  | int b => exact .int b
  | str b => exact .str b
  | ty b => exact .ty b
  | tup h l => exact .tup h l
  | fl h n l => exact .fl h n l
  | scr h => exact .scr h
  | ob h n hl l => exact .ob h n hl l
  | ref h => exact .ref h
theorem f_unX (hk : ∀ vs, G.kt vs) (he : PE X e (tE G f W)) : PE X e (tE G (eUnX f) W) := PE.imp he fun σ _ Q ⟨us, w, e, m, sl, h⟩ => by
  subst e
  refine ⟨us, w, rfl, m, sl, (Pt.bind (Rel := R G) h).imp ?_⟩
  rintro v H1 ⟨w1, u, rfl, e1, m1, r1, h1⟩
  exact h1 w1 v rfl (Ext.refl _) m1 (r1.unX hk)
/-- tuple(x) -/
def eTupX (fa : EvA) : Ev := fun us h => (fa us h).bind fun xs h1 => match xs with
  | [u] => (match lstU h1 u with | some ys => .ok (.tx ys) h1 | none => .no)
  | _ => .no
theorem Ext.frz {w : Wd} {p : Addr} {ob : Obj} {vs : List V} (hp : w.H p = none) : Ext w (w.new p (.frz ob (.tup vs))) := Ext.new hp
theorem f_tupX (hK : X.K = G.K) (hg : Gl X "tuple") (hm : X.mg "tuple" = none) (ha : PA X [e] (tA G fa W)) (he : starEach [e] X.env = (false, eval e X.env) :: starEach [] X.env := by rfl) : PE X (.Call (.Name "tuple" p) [e] [] pos) (tE G (eTupX fa) W) :=
  PE.imp (pe_callTy call_tuple_ofX hg hm (by decide +kernel) ha (he := he)) fun σ _ Q ⟨us, w, e, m, sl, h⟩ => by
    subst e
    refine ⟨us, w, rfl, m, sl, (Pt.bind (Rel := RL G) h).imp ?_⟩
    rintro vs H1 ⟨w1, xs, rfl, e1, m1, r1, h1⟩
    split at h1
    · rename_i u
      split at h1
      · rename_i ys q
        cases r1 with
        | cons r t =>
          cases t
          obtain ⟨p, vs, rfl, hs, l⟩ := lstU_of m1 r q
          refine ⟨p, vs, rfl, by rw [hK]; exact hs, fun l o hd hl => h1 (w1.new l (.frz o (.tup vs))) (.ref l) rfl (Ext.new hl) (m1.new hl) (.tx upd_same hd ?_)⟩
          rename_i lx
          exact lx.up m1 (Ext.new hl)
      · exact h1.elim
    · exact h1.elim
/-- t.index(n), all ints -/
def eIndexX (fo : Ev) (fa : EvA) : Ev := fun us h => (fo us h).bind fun u h1 => match u with
  | .tx xs => ((fa us h1).bind fun as h2 => match as with
    | [.int n] => (match toInts xs with | some ns => (match idxI n ns 0 with | some j => .ok (.int (j : Nat)) h2 | none => .no) | none => .no)
    | _ => .no)
  | _ => .no
theorem f_indexX (hK : X.K = G.K) (ho : PE X o (tE G fo W)) (ha : PA X [e] (tA G fa W)) (hbase : attributeBase o "index" X.env (eval o X.env) = eval o X.env := by rfl)
    (hline : (apos.endLine == cpos.line) = true := by rfl) (hs : starEach [e] X.env = (false, eval e X.env) :: starEach [] X.env := by rfl)
    (hfew : ((backTo cpos (starEach [e] X.env)).all (fun x => !x.1) && (backToKw cpos (keywordEach [] X.env)).all (fun x => x.1.isSome)
      && decide ([e].length + ([] : List Keyword).length + (if ([] : List Keyword).isEmpty then 0 else 1) < 30)) = true := by rfl) :
    PE X (.Call (.Attribute o "index" apos) [e] [] cpos) (tE G (eIndexX fo fa) W) :=
  PE.imp (pe_bmX PySem.F.plainAttrs_tuple PySem.F.slot_tuple_index PySem.F.type_tuple_index mt_indexT ho ha hbase hfew hline hs rfl) fun σ _ Q ⟨us, w, e, m, sl, h⟩ => by
    subst e
    refine ⟨us, w, rfl, m, sl, (Pt.bind (Rel := R G) h).imp ?_⟩
    rintro v H1 ⟨w1, u, rfl, e1, m1, r1, h1⟩
    split at h1
    · rename_i xs
      have r1' := r1
      cases r1' with
      | @tx a ob _ vs hh hd l =>
        refine ⟨⟨a, ob, vs, rfl, hh, hd⟩, us, w1, rfl, m1, sl.up m e1, (Pt.bind (Rel := RL G) h1).imp ?_⟩
        rintro zs H2 ⟨w2, as, rfl, e2, m2, r2, h2⟩
        have r3 := r1.up m1 e2
        split at h2
        · rename_i n
          cases r2 with
          | cons ry t =>
            cases t
            cases ry
            split at h2
            · rename_i ns q2
              split at h2
              · rename_i j q3
                cases r3 with
                | @tx _ ob2 _ ws hh2 hd2 l2 =>
                  obtain ⟨e1, e2⟩ := toInts_of l2 q2
                  subst e1
                  obtain ⟨k, hk, h1, h3⟩ := idxI_spec q3
                  have hk : j = k := by omega
                  subst hk
                  refine ⟨a, ns.map V.int, .int n, j, .int n, rfl, rfl, .inl (.inr ⟨_, hh2⟩), rfl, flat_ints ns, by rw [List.getElem?_map, h1]; rfl, by simp [eqV], fun i z hi hz => ?_, h2.val m2 (.int _)⟩
                  rw [List.getElem?_map] at hz
                  cases hy : ns[i]? with
                  | none => rw [hy] at hz; cases hz
                  | some y =>
                    rw [hy] at hz
                    cases hz
                    have := h3 i y hi hy
                    simp [eqV, this]
              · exact h2.elim
            · exact h2.elim
        · exact h2.elim
    · exact h1.elim
end
end Fn
/-! what an evaluator does not look at: slots vs -/
namespace Fn
open PySem L2
/-- alike but for the slots vs -/
structure Eqx (vs : List Nat) (us us' : Lo) : Prop where
  len : us.length = us'.length
  at' : ∀ j, j ∉ vs → us[j]? = us'[j]?
/-- the slots vs are kept -/
def Kpt (vs : List Nat) (us a : Lo) : Prop := a.length = us.length ∧ ∀ j ∈ vs, a[j]? = us[j]?
def Ind {β : Type} (vs : List Nat) (f : Lo → List UO → β) : Prop := ∀ us us' h, Eqx vs us us' → f us h = f us' h
def RelRt (vs : List Nat) (us us' : Lo) : Rt → Rt → Prop
  | .nx a h, .nx a' h' => h = h' ∧ Eqx vs a a' ∧ Kpt vs us a ∧ Kpt vs us' a'
  | .bk a h, .bk a' h' => h = h' ∧ Eqx vs a a' ∧ Kpt vs us a ∧ Kpt vs us' a'
  | .ct a h, .ct a' h' => h = h' ∧ Eqx vs a a' ∧ Kpt vs us a ∧ Kpt vs us' a'
  | .rt u h, .rt u' h' => u = u' ∧ h = h'
  | .ex e a h, .ex e' a' h' => e = e' ∧ h = h' ∧ Eqx vs a a' ∧ Kpt vs us a ∧ Kpt vs us' a'
  | .no, .no => True
  | _, _ => False
def IndS (vs : List Nat) (g : Sv) : Prop := ∀ us us' h, Eqx vs us us' → RelRt vs us us' (g us h) (g us' h)
def IndT (vs : List Nat) (tg : Tgt) : Prop := ∀ x us us', Eqx vs us us' → match tg x us, tg x us' with
  | some a, some a' => Eqx vs a a' ∧ Kpt vs us a ∧ Kpt vs us' a'
  | none, none => True
  | _, _ => False
section
variable {vs : List Nat}
theorem Kpt.refl (us : Lo) : Kpt vs us us := ⟨rfl, fun _ _ => rfl⟩
theorem Kpt.trans {us a b : Lo} (h1 : Kpt vs us a) (h2 : Kpt vs a b) : Kpt vs us b := ⟨h2.1.trans h1.1, fun j hj => (h2.2 j hj).trans (h1.2 j hj)⟩
theorem Eqx.set {us us' : Lo} (e : Eqx vs us us') {i : Nat} (hi : i ∉ vs) (u : Option U) : Eqx vs (us.set i u) (us'.set i u) := by
  refine ⟨by simp [e.len], fun j hj => ?_⟩
  by_cases q : i = j
  · subst q
    by_cases hl : i < us.length
    · rw [List.getElem?_set_self hl, List.getElem?_set_self (by rw [← e.len]; exact hl)]
    · rw [List.getElem?_eq_none (by simpa using hl), List.getElem?_eq_none (by simpa [← e.len] using hl)]
  · rw [List.getElem?_set_ne q, List.getElem?_set_ne q]
    exact e.at' j hj
theorem Kpt.set {us : Lo} {i : Nat} (hi : i ∉ vs) (u : Option U) : Kpt vs us (us.set i u) := by
  refine ⟨by simp, fun j hj => ?_⟩
  have ne : i ≠ j := fun z => hi (by rw [z]; exact hj)
  rw [List.getElem?_set_ne ne]
theorem Eqx.wipe {us us' : Lo} (e : Eqx vs us us') : ∀ {ws : List Nat}, (∀ j ∈ ws, j ∉ vs) → Eqx vs (wipeU us ws) (wipeU us' ws)
  | [], _ => e
  | v :: ws, h => (Eqx.wipe e fun j hj => h j (List.mem_cons_of_mem _ hj)).set (h v List.mem_cons_self) none
theorem Ind.rs {α β : Type} {f : Lo → List UO → Rs α} {k : α → Lo → List UO → Rs β} (hf : Ind vs f) (hk : ∀ a, Ind vs (k a)) : Ind vs (fun us h => (f us h).bind fun a h1 => k a us h1) := fun us us' h e => by
  show (f us h).bind _ = (f us' h).bind _
  rw [hf us us' h e]
  cases f us' h with
  | ok a h1 => exact hk a us us' h1 e
  | ex _ _ => rfl
  | no => rfl
theorem Ind.const {β : Type} (g : List UO → β) : Ind vs (fun _ h => g h) := fun _ _ _ _ => rfl
theorem i_var {i : Nat} (hi : i ∉ vs) : Ind vs (eVar i) := fun us us' h e => by
  unfold eVar
  rw [e.at' i hi]
theorem i_C (u : U) : Ind vs (eC u) := fun _ _ _ _ => rfl
theorem i_e1 {k : U → List UO → Rs U} {fa : Ev} (ha : Ind vs fa) : Ind vs (e1 k fa) := ha.rs fun a => .const (k a)
theorem i_e2 {k : U → U → List UO → Rs U} {fa fb : Ev} (ha : Ind vs fa) (hb : Ind vs fb) : Ind vs (e2 k fa fb) := ha.rs fun a => hb.rs fun b => .const (k a b)
theorem i_nil : Ind vs eNil := fun _ _ _ _ => rfl
theorem i_cons {fa : Ev} {fr : EvA} (ha : Ind vs fa) (hr : Ind vs fr) : Ind vs (eCons fa fr) := ha.rs fun a => hr.rs fun r => .const (fun h => Rs.ok (a :: r) h)
theorem i_call {k : List U → List UO → Rs U} {fa : EvA} (ha : Ind vs fa) : Ind vs (eCall k fa) := ha.rs fun a => .const (k a)
theorem i_callG {n : Nat} {f : Fg} {fa : EvA} (ha : Ind vs fa) : Ind vs (eCallG n f fa) := ha.rs fun _ => .const _
theorem i_callR {n : Nat} {f : Fg} {fa : EvA} (ha : Ind vs fa) : Ind vs (eCallR n f fa) := ha.rs fun _ => .const _
theorem i_callH {n : Nat} {f : Fh} {fa : EvA} (ha : Ind vs fa) : Ind vs (eCallH n f fa) := ha.rs fun _ => .const _
theorem i_unX {f : Ev} (ha : Ind vs f) : Ind vs (eUnX f) := ha.rs fun _ => .const _
theorem i_tup {fa : EvA} (ha : Ind vs fa) : Ind vs (eTup fa) := ha.rs fun _ => .const _
theorem i_lst {fa : EvA} (ha : Ind vs fa) : Ind vs (eLst fa) := ha.rs fun _ => .const _
theorem i_F {f : EvL} (ha : Ind vs f) : Ind vs (eF f) := ha.rs fun xs => .const (fun h => Rs.ok (U.fl xs) h)
theorem i_T {f : EvL} (ha : Ind vs f) : Ind vs (eT f) := ha.rs fun _ => .const _
theorem i_listOf {fa : EvA} (ha : Ind vs fa) : Ind vs (eListOf fa) := ha.rs fun _ => .const _
theorem i_rg1 {f : Ev} (ha : Ind vs f) : Ind vs (eRg1 f) := ha.rs fun _ => .const _
theorem i_rg2 {f g : Ev} (ha : Ind vs f) (hb : Ind vs g) : Ind vs (eRg2 f g) := ha.rs fun _ => hb.rs fun _ => .const _
theorem i_LRg {f : EvR} (ha : Ind vs f) : Ind vs (eLRg f) := ha.rs fun _ => .const _
theorem i_TRg {f : EvR} (ha : Ind vs f) : Ind vs (eTRg f) := ha.rs fun _ => .const _
theorem i_TRg3 {fa : EvA} (ha : Ind vs fa) : Ind vs (eTRg3 fa) := ha.rs fun _ => .const _
theorem i_N2 {k : U → U → List UO → Rs (List U)} {fa fb : Ev} (ha : Ind vs fa) (hb : Ind vs fb) : Ind vs (eN2 k fa fb) := ha.rs fun a => hb.rs fun b => .const (k a b)
theorem i_RevN {f : Ev} (ha : Ind vs f) : Ind vs (eRevN f) := ha.rs fun a => .const (nRev a)
theorem i_oNo : Ind vs oNo := fun _ _ _ _ => rfl
theorem i_oE {f : Ev} (ha : Ind vs f) : Ind vs (oE f) := ha.rs fun _ => .const _
theorem i_Sl {f : Ev} {lo hi : EvO} (ha : Ind vs f) (hl : Ind vs lo) (hh : Ind vs hi) : Ind vs (eSl f lo hi) := ha.rs fun x => hl.rs fun a => hh.rs fun b => .const (kSl x a b)
theorem i_SlN {f : Ev} {lo hi : EvO} (ha : Ind vs f) (hl : Ind vs lo) (hh : Ind vs hi) : Ind vs (eSlN f lo hi) := ha.rs fun x => hl.rs fun a => hh.rs fun b => .const (nSl x a b)
theorem i_bE {f : Ev} (ha : Ind vs f) : Ind vs (bE f) := ha.rs fun _ => .const _
theorem i_bTru {f : Ev} (ha : Ind vs f) : Ind vs (bTru f) := ha.rs fun _ => .const _
theorem i_bYes : Ind vs bYes := fun _ _ _ _ => rfl
theorem i_bNot {f : EvB} (ha : Ind vs f) : Ind vs (bNot f) := ha.rs fun _ => .const _
theorem i_bAnd {f g : EvB} (ha : Ind vs f) (hb : Ind vs g) : Ind vs (bAnd f g) := ha.rs fun c us us' h e => by
  cases c with
  | true => exact hb us us' h e
  | false => rfl
theorem i_bOr {f g : EvB} (ha : Ind vs f) (hb : Ind vs g) : Ind vs (bOr f g) := ha.rs fun c us us' h e => by
  cases c with
  | true => rfl
  | false => exact hb us us' h e
theorem i_andV {f g : Ev} (ha : Ind vs f) (hb : Ind vs g) : Ind vs (eAndV f g) := ha.rs fun c us us' h e => by
  cases c with
  | bl b => cases b with
    | true => exact hb us us' h e
    | false => rfl
  | _ => rfl
theorem i_orV {f g : Ev} (ha : Ind vs f) (hb : Ind vs g) : Ind vs (eOrV f g) := ha.rs fun c us us' h e => by
  cases c with
  | bl b => cases b with
    | true => rfl
    | false => exact hb us us' h e
  | _ => rfl
theorem i_notV {f : Ev} (ha : Ind vs f) : Ind vs (eNotV f) := ha.rs fun _ => .const _
theorem i_if {c : EvB} {f g : Ev} (hc : Ind vs c) (ha : Ind vs f) (hb : Ind vs g) : Ind vs (eIf c f g) := hc.rs fun c us us' h e => by
  cases c with
  | true => exact ha us us' h e
  | false => exact hb us us' h e
theorem i_Mt {k : U → List U → List UO → Rs U} {fo : Ev} {fa : EvA} (ho : Ind vs fo) (ha : Ind vs fa) : Ind vs (eMt k fo fa) := ho.rs fun u us us' h e => by
  cases lstU h u with
  | none => rfl
  | some _ => exact (ha.rs fun a => .const (k u a)) us us' h e
theorem i_Mt0 {k : U → List U → List UO → Rs U} {fo : Ev} (ho : Ind vs fo) : Ind vs (eMt0 k fo) := ho.rs fun _ => .const _
theorem i_r1 {f : Ev} (ha : Ind vs f) : Ind vs (ir1 f) := ha.rs fun _ => .const _
theorem i_r2 {f g : Ev} (ha : Ind vs f) (hb : Ind vs g) : Ind vs (ir2 f g) := ha.rs fun _ => hb.rs fun _ => .const _
theorem i_r3 {f g k : Ev} (ha : Ind vs f) (hb : Ind vs g) (hc : Ind vs k) : Ind vs (ir3 f g k) := ha.rs fun _ => hb.rs fun _ => hc.rs fun _ => .const _
theorem i_en {fa : EvA} (ha : Ind vs fa) : Ind vs (ien fa) := ha.rs fun _ => .const _
theorem i_zp {fa : EvA} (ha : Ind vs fa) : Ind vs (izip fa) := ha.rs fun _ => .const _
theorem i_sq {f : Ev} (ha : Ind vs f) : Ind vs (eSeq f) := ha.rs fun _ => .const _
/-! ### targets -/
theorem it_name {i : Nat} (hi : i ∉ vs) : IndT vs (aName i) := fun x us us' e => ⟨e.set hi _, .set hi _, .set hi _⟩
def IndTs (vs : List Nat) (b : List U → Lo → Option Lo) : Prop := ∀ xs us us', Eqx vs us us' → match b xs us, b xs us' with
  | some a, some a' => Eqx vs a a' ∧ Kpt vs us a ∧ Kpt vs us' a'
  | none, none => True
  | _, _ => False
theorem its_nil : IndTs vs aNil := fun xs us us' e => by
  cases xs with
  | nil => exact ⟨e, .refl _, .refl _⟩
  | cons _ _ => trivial
theorem its_cons {a : Tgt} {b : List U → Lo → Option Lo} (ha : IndT vs a) (hb : IndTs vs b) : IndTs vs (aCons a b) := fun xs us us' e => by
  cases xs with
  | nil => trivial
  | cons x r =>
    have h1 := ha x us us' e
    unfold aCons
    dsimp only
    cases q : a x us with
    | none =>
      rw [q] at h1
      cases q' : a x us' with
      | none => trivial
      | some _ => rw [q'] at h1; exact h1.elim
    | some w =>
      rw [q] at h1
      cases q' : a x us' with
      | none => rw [q'] at h1; exact h1.elim
      | some w' =>
        rw [q'] at h1
        obtain ⟨e1, k1, k1'⟩ := h1
        have h2 := hb r w w' e1
        dsimp only
        cases q2 : b r w with
        | none =>
          rw [q2] at h2
          cases q2' : b r w' with
          | none => trivial
          | some _ => rw [q2'] at h2; exact h2.elim
        | some z =>
          rw [q2] at h2
          cases q2' : b r w' with
          | none => rw [q2'] at h2; exact h2.elim
          | some z' =>
            rw [q2'] at h2
            exact ⟨h2.1, k1.trans h2.2.1, k1'.trans h2.2.2⟩
theorem it_tup {b : List U → Lo → Option Lo} (hb : IndTs vs b) : IndT vs (aTup b) := fun x us us' e => by
  cases x with
  | tup xs => exact hb xs us us' e
  | _ => trivial
/-- both ways of a target -/
theorem IndT.cases {tg : Tgt} (h : IndT vs tg) {x : U} {us us' : Lo} (e : Eqx vs us us') : (tg x us = none ∧ tg x us' = none) ∨ ∃ a a', tg x us = some a ∧ tg x us' = some a' ∧ Eqx vs a a' ∧ Kpt vs us a ∧ Kpt vs us' a' := by
  have h1 := h x us us' e
  cases q : tg x us with
  | none =>
    rw [q] at h1
    cases q' : tg x us' with
    | none => exact .inl ⟨rfl, rfl⟩
    | some _ => rw [q'] at h1; exact h1.elim
  | some a =>
    rw [q] at h1
    cases q' : tg x us' with
    | none => rw [q'] at h1; exact h1.elim
    | some a' => rw [q'] at h1; exact .inr ⟨a, a', rfl, rfl, h1⟩
/-! ### comprehensions -/
theorem i_lcL {tg : Tgt} {ts : EvB} {el : Ev} (ht : IndT vs tg) (hs : Ind vs ts) (he : Ind vs el) {us us' : Lo} (e : Eqx vs us us') : ∀ (xs : List U) (h : List UO), lcL tg ts el us xs h = lcL tg ts el us' xs h
  | [], _ => rfl
  | x :: r, h => by
    unfold lcL
    rcases ht.cases (x := x) e with ⟨q, q'⟩ | ⟨a, a', q, q', e1, _, _⟩
    · rw [q, q']
    · rw [q, q']
      dsimp only
      rw [hs a a' h e1]
      cases ts a' h with
      | ok b h1 =>
        cases b with
        | false => exact i_lcL ht hs he e r h1
        | true =>
          dsimp only
          rw [he a a' h1 e1]
          cases el a' h1 with
          | ok y h2 =>
            dsimp only
            rw [i_lcL ht hs he e r h2]
          | ex _ _ => rfl
          | no => rfl
      | ex _ _ => rfl
      | no => rfl
theorem i_lcD {it : Nat → List UO → Option (Option U)} {tg : Tgt} {ts : EvB} {el : Ev} (ht : IndT vs tg) (hs : Ind vs ts) (he : Ind vs el) {us us' : Lo} (e : Eqx vs us us') : ∀ (n i : Nat) (h : List UO), lcD it tg ts el us n i h = lcD it tg ts el us' n i h
  | 0, _, _ => rfl
  | n + 1, i, h => by
    unfold lcD
    cases it i h with
    | none => rfl
    | some o =>
      cases o with
      | none => rfl
      | some x =>
        dsimp only
        rcases ht.cases (x := x) e with ⟨q, q'⟩ | ⟨a, a', q, q', e1, _, _⟩
        · rw [q, q']
        · rw [q, q']
          dsimp only
          rw [hs a a' h e1]
          cases ts a' h with
          | ok b h1 =>
            cases b with
            | false => exact i_lcD ht hs he e n (i + 1) h1
            | true =>
              dsimp only
              rw [he a a' h1 e1]
              cases el a' h1 with
              | ok y h2 =>
                dsimp only
                rw [i_lcD ht hs he e n (i + 1) h2]
              | ex _ _ => rfl
              | no => rfl
          | ex _ _ => rfl
          | no => rfl
theorem i_Lc {fi : EvI} {tg : Tgt} {ts : EvB} {el : Ev} {ws : List Nat} (hw : ∀ j ∈ ws, j ∉ vs) (hi : Ind vs fi) (ht : IndT vs tg) (hs : Ind vs ts) (he : Ind vs el) : Ind vs (eLc fi tg ts el ws) := hi.rs fun s us us' h e => by
  have z : lcS tg ts el (wipeU us ws) s h = lcS tg ts el (wipeU us' ws) s h := by
    cases s with
    | fix xs => exact i_lcL ht hs he (e.wipe hw) xs h
    | dyn it => exact i_lcD ht hs he (e.wipe hw) 100000 0 h
  show (match lcS tg ts el (wipeU us ws) s h with | .ok ys h2 => (match Nat.blt ys.length 16777216 with | true => Rs.ok ys h2 | false => .no) | _ => .no) = _
  rw [z] <;> rfl
/-! ### statements -/
theorem RelRt.then {α : Type} {r : Rs α} {us us' : Lo} {k k' : α → List UO → Rt} (e : Eqx vs us us') (hk : ∀ a h, RelRt vs us us' (k a h) (k' a h)) : RelRt vs us us' (r.then us k) (r.then us' k') := by
  cases r with
  | ok a h => exact hk a h
  | ex x h => exact ⟨rfl, rfl, e, .refl _, .refl _⟩
  | no => trivial
theorem is_nx : IndS vs gNx := fun us us' h e => ⟨rfl, e, .refl _, .refl _⟩
theorem is_bk : IndS vs gBk := fun us us' h e => ⟨rfl, e, .refl _, .refl _⟩
theorem is_ct : IndS vs gCt := fun us us' h e => ⟨rfl, e, .refl _, .refl _⟩
theorem is_retN : IndS vs gRetN := fun us us' h e => ⟨rfl, rfl⟩
theorem is_ex {f : Ev} (hf : Ind vs f) : IndS vs (gEx f) := fun us us' h e => by
  unfold gEx
  rw [hf us us' h e]
  exact RelRt.then e fun _ h1 => ⟨rfl, e, .refl _, .refl _⟩
theorem is_ret {f : Ev} (hf : Ind vs f) : IndS vs (gRet f) := fun us us' h e => by
  unfold gRet
  rw [hf us us' h e]
  exact RelRt.then e fun _ h1 => ⟨rfl, rfl⟩
theorem is_set {i : Nat} {f : Ev} (hi : i ∉ vs) (hf : Ind vs f) : IndS vs (gSet i f) := fun us us' h e => by
  unfold gSet
  rw [hf us us' h e]
  exact RelRt.then e fun u h1 => ⟨rfl, e.set hi _, .set hi _, .set hi _⟩
theorem is_put {fo fi fv : Ev} (ho : Ind vs fo) (hi : Ind vs fi) (hv : Ind vs fv) : IndS vs (gPut fo fi fv) := fun us us' h e => by
  unfold gPut
  rw [hv us us' h e]
  refine RelRt.then e fun v h1 => ?_
  rw [ho us us' h1 e]
  refine RelRt.then e fun o h2 => ?_
  rw [hi us us' h2 e]
  refine RelRt.then e fun i h3 => ?_
  exact RelRt.then e fun _ h4 => ⟨rfl, e, .refl _, .refl _⟩
theorem is_asg {a : Tgt} {f : Ev} (ha : IndT vs a) (hf : Ind vs f) : IndS vs (gAsg a f) := fun us us' h e => by
  unfold gAsg
  rw [hf us us' h e]
  refine RelRt.then e fun u h1 => ?_
  rcases ha.cases (x := u) e with ⟨q, q'⟩ | ⟨w, w', q, q', e1, k1, k2⟩
  · rw [q, q']; trivial
  · rw [q, q']; exact ⟨rfl, e1, k1, k2⟩
theorem is_if {c : EvB} {a b : Sv} (hc : Ind vs c) (ha : IndS vs a) (hb : IndS vs b) : IndS vs (gIf c a b) := fun us us' h e => by
  unfold gIf
  rw [hc us us' h e]
  refine RelRt.then e fun b1 h1 => ?_
  cases b1 with
  | true => exact ha us us' h1 e
  | false => exact hb us us' h1 e
theorem RelRt.kpt {us us' w w' : Lo} {r r' : Rt} (k : Kpt vs us w) (k' : Kpt vs us' w') (h : RelRt vs w w' r r') : RelRt vs us us' r r' := by
  cases r <;> cases r' <;> first
    | exact h.elim
    | exact h
    | exact ⟨h.1, h.2.1, k.trans h.2.2.1, k'.trans h.2.2.2⟩
    | exact ⟨h.1, h.2.1, h.2.2.1, k.trans h.2.2.2.1, k'.trans h.2.2.2.2⟩
theorem is_seq {a b : Sv} (ha : IndS vs a) (hb : IndS vs b) : IndS vs (gSeq a b) := fun us us' h e => by
  have h1 := ha us us' h e
  unfold gSeq
  cases q : a us h <;> cases q' : a us' h <;> rw [q, q'] at h1 <;> first
    | exact h1.elim
    | exact h1
    | (obtain ⟨rfl, e1, k1, k2⟩ := h1; exact (hb _ _ _ e1).kpt k1 k2)
theorem i_forL {tg : Tgt} {body : Sv} (ht : IndT vs tg) (hb : IndS vs body) : ∀ (xs : List U) (us us' : Lo) (h : List UO), Eqx vs us us' → RelRt vs us us' (forL tg body xs us h) (forL tg body xs us' h)
  | [], us, us', h, e => ⟨rfl, e, .refl _, .refl _⟩
  | x :: r, us, us', h, e => by
    unfold forL
    rcases ht.cases (x := x) e with ⟨q, q'⟩ | ⟨w, w', q, q', e1, k1, k2⟩
    · rw [q, q']; trivial
    · rw [q, q']
      dsimp only
      have h1 := hb w w' h e1
      cases z : body w h <;> cases z' : body w' h <;> rw [z, z'] at h1 <;> first
        | exact h1.elim
        | (obtain ⟨rfl, e2, k3, k4⟩ := h1; exact (i_forL ht hb r _ _ _ e2).kpt (k1.trans k3) (k2.trans k4))
        | (obtain ⟨rfl, e2, k3, k4⟩ := h1; exact ⟨rfl, e2, k1.trans k3, k2.trans k4⟩)
        | exact h1.kpt k1 k2
theorem i_forD {it : Nat → List UO → Option (Option U)} {tg : Tgt} {body : Sv} (ht : IndT vs tg) (hb : IndS vs body) : ∀ (n i : Nat) (us us' : Lo) (h : List UO), Eqx vs us us' → RelRt vs us us' (forD it tg body n i us h) (forD it tg body n i us' h)
  | 0, _, _, _, _, _ => trivial
  | n + 1, i, us, us', h, e => by
    unfold forD
    cases it i h with
    | none => trivial
    | some o =>
      cases o with
      | none => exact ⟨rfl, e, .refl _, .refl _⟩
      | some x =>
        dsimp only
        rcases ht.cases (x := x) e with ⟨q, q'⟩ | ⟨w, w', q, q', e1, k1, k2⟩
        · rw [q, q']; trivial
        · rw [q, q']
          dsimp only
          have h1 := hb w w' h e1
          cases z : body w h <;> cases z' : body w' h <;> rw [z, z'] at h1 <;> first
            | exact h1.elim
            | (obtain ⟨rfl, e2, k3, k4⟩ := h1; exact (i_forD ht hb n (i + 1) _ _ _ e2).kpt (k1.trans k3) (k2.trans k4))
            | (obtain ⟨rfl, e2, k3, k4⟩ := h1; exact ⟨rfl, e2, k1.trans k3, k2.trans k4⟩)
            | exact h1.kpt k1 k2
theorem is_for {fi : EvI} {tg : Tgt} {body : Sv} (hi : Ind vs fi) (ht : IndT vs tg) (hb : IndS vs body) : IndS vs (gFor fi tg body) := fun us us' h e => by
  unfold gFor
  rw [hi us us' h e]
  refine RelRt.then e fun s h1 => ?_
  cases s with
  | fix xs => exact i_forL ht hb xs us us' h1 e
  | dyn it => exact i_forD ht hb 100000 0 us us' h1 e
/-- what is known of alike slots by one reckoning -/
theorem IndS.nx {g : Sv} (hg : IndS vs g) {us us' a' : Lo} {h h1 : List UO} (e : Eqx vs us us') (q : g us' h = .nx a' h1) : ∃ a, g us h = .nx a h1 ∧ Eqx vs a a' ∧ Kpt vs us a := by
  have z := hg us us' h e
  rw [q] at z
  cases q2 : g us h <;> rw [q2] at z <;> first
    | exact z.elim
    | (obtain ⟨rfl, e1, k1, _⟩ := z; exact ⟨_, rfl, e1, k1⟩)
theorem IndS.rt {g : Sv} (hg : IndS vs g) {us us' : Lo} {u : U} {h h1 : List UO} (e : Eqx vs us us') (q : g us' h = .rt u h1) : g us h = .rt u h1 := by
  have z := hg us us' h e
  rw [q] at z
  cases q2 : g us h <;> rw [q2] at z <;> first
    | exact z.elim
    | (obtain ⟨rfl, rfl⟩ := z; rfl)
end
end Fn
/-! values compared by a Bool; tables of a def's answers -/
namespace Fn
open PySem L2
def sameL (f : U → U → Bool) : List U → List U → Bool
  | [], [] => true
  | x :: r, y :: s => f x y && sameL f r s
  | _, _ => false
def sameU : Nat → U → U → Bool
  | 0, _, _ => false
  | n + 1, a, b => match a, b with
    | .non, .non => true
    | .bl x, .bl y => x == y
    | .int i, .int j => decide (i = j)
    | .tup x, .tup y => sameL (sameU n) x y
    | .fl x, .fl y => sameL (sameU n) x y
    | .ref i, .ref j => Nat.beq i j
    | _, _ => false
theorem sameL_eq {f : U → U → Bool} (hf : ∀ a b, f a b = true → a = b) : ∀ x y, sameL f x y = true → x = y
  | [], [], _ => rfl
  | a :: r, b :: s, h => by
    unfold sameL at h
    rw [Bool.and_eq_true] at h
    rw [hf a b h.1, sameL_eq hf r s h.2]
  | [], _ :: _, h => by cases h
  | _ :: _, [], h => by cases h
theorem sameU_eq : ∀ (n : Nat) (a b : U), sameU n a b = true → a = b
  | 0, _, _, h => by cases h
  | n + 1, a, b, h => by
    have ih := sameU_eq n
    unfold sameU at h
    split at h
    · rfl
    · rw [eq_of_beq h]
    · rw [of_decide_eq_true h]
    · rw [sameL_eq ih _ _ h]
    · rw [sameL_eq ih _ _ h]
    · rw [Nat.eq_of_beq_eq_true h]
    · cases h
def sameS : Option (Option U) → Option (Option U) → Bool
  | none, none => true
  | some none, some none => true
  | some (some a), some (some b) => sameU 6 a b
  | _, _ => false
theorem sameS_eq {a b : Option (Option U)} (h : sameS a b = true) : a = b := by
  unfold sameS at h
  split at h
  · rfl
  · rfl
  · rw [sameU_eq _ _ _ h]
  · cases h
/-- alike at the slots js -/
def sameAt (js : List Nat) (a b : Lo) : Bool := js.all fun j => sameS a[j]? b[j]?
theorem sameAt_of {js : List Nat} {a b : Lo} (h : sameAt js a b = true) : ∀ j ∈ js, a[j]? = b[j]? := fun j hj => sameS_eq (List.all_eq_true.mp h j hj)
def sameK : List (List Key) → List (List Key) → Bool
  | [], [] => true
  | x :: r, y :: s => decide (x = y) && sameK r s
  | _, _ => false
theorem sameK_eq : ∀ x y, sameK x y = true → x = y
  | [], [], _ => rfl
  | a :: r, b :: s, h => by
    unfold sameK at h
    rw [Bool.and_eq_true] at h
    rw [of_decide_eq_true h.1, sameK_eq r s h.2]
  | [], _ :: _, h => by cases h
  | _ :: _, [], h => by cases h
theorem pairs_eq {κ : Type} : ∀ {x y : List (κ × U)}, x.map (·.1) = y.map (·.1) → x.map (·.2) = y.map (·.2) → x = y
  | [], [], _, _ => rfl
  | (a, b) :: r, (c, d) :: s, h1, h2 => by
    injection h1 with e1 e2
    injection h2 with e3 e4
    have e1 : a = c := e1
    have e3 : b = d := e3
    rw [e1, e3, pairs_eq e2 e4]
  | [], _ :: _, h, _ => by cases h
  | _ :: _, [], h, _ => by cases h
def sameO : UO → UO → Bool
  | .lst x, .lst y => sameL (sameU 6) x y
  | .dt x, .dt y => sameK (x.map (·.1)) (y.map (·.1)) && sameL (sameU 6) (x.map (·.2)) (y.map (·.2))
  | _, _ => false
theorem sameO_eq {a b : UO} (h : sameO a b = true) : a = b := by
  unfold sameO at h
  split at h
  · rw [sameL_eq (sameU_eq 6) _ _ h]
  · rw [Bool.and_eq_true] at h
    rw [pairs_eq (sameK_eq _ _ h.1) (sameL_eq (sameU_eq 6) _ _ h.2)]
  · cases h
/-- h begins with g -/
def preH : List UO → List UO → Bool
  | [], _ => true
  | x :: r, y :: s => sameO x y && preH r s
  | _ :: _, [] => false
theorem preH_of : ∀ {g h : List UO}, preH g h = true → ∃ r, h = g ++ r
  | [], h, _ => ⟨h, rfl⟩
  | x :: r, y :: s, q => by
    unfold preH at q
    rw [Bool.and_eq_true] at q
    obtain ⟨t, e⟩ := preH_of q.2
    exact ⟨t, by rw [e, sameO_eq q.1]; rfl⟩
  | _ :: _, [], q => by cases q
def sameH (g h : List UO) : Bool := Nat.beq g.length h.length && preH g h
theorem sameH_eq {g h : List UO} (q : sameH g h = true) : g = h := by
  unfold sameH at q
  rw [Bool.and_eq_true] at q
  obtain ⟨r, e⟩ := preH_of q.2
  have l := Nat.eq_of_beq_eq_true q.1
  subst e
  rw [List.length_append] at l
  have : r = [] := List.eq_nil_of_length_eq_zero (by omega)
  subst this
  rw [List.append_nil]
/-- the same heap, the same slots -/
def sameN (us : Lo) (h : List UO) (r : Rt) : Bool := match r with
  | .nx a g => Nat.beq us.length a.length && sameAt (List.range us.length) us a && sameH h g
  | _ => false
theorem sameN_eq {us : Lo} {h : List UO} {r : Rt} (q : sameN us h r = true) : r = .nx us h := by
  unfold sameN at q
  split at q
  · rename_i a g
    rw [Bool.and_eq_true, Bool.and_eq_true] at q
    have l := Nat.eq_of_beq_eq_true q.1.1
    have : us = a := List.ext_getElem? fun j => by
      by_cases hj : j < us.length
      · exact sameAt_of q.1.2 j (List.mem_range.mpr hj)
      · rw [List.getElem?_eq_none (by omega), List.getElem?_eq_none (by omega)]
    rw [this, sameH_eq q.2]
  · cases q
/-! ### a table -/
def look (t : List (List Int × Int)) (ns : List Int) : Option Int := match t with
  | [] => none
  | p :: r => match decide (p.1 = ns) with | true => some p.2 | false => look r ns
def isI (r : Rg) (n : Int) : Bool := match r with | .ok (.int m) => decide (m = n) | _ => false
theorem isI_of {r : Rg} {n : Int} (h : isI r n = true) : r = .ok (.int n) := by
  unfold isI at h
  split at h
  · rw [of_decide_eq_true h]
  · cases h
theorem look_of : ∀ {t : List (List Int × Int)} {ns : List Int} {n : Int}, look t ns = some n → (ns, n) ∈ t
  | [], _, _, h => by cases h
  | p :: r, ns, n, h => by
    unfold look at h
    split at h
    · rename_i q
      cases h
      have := of_decide_eq_true q
      subst this
      exact List.mem_cons_self
    · exact List.mem_cons_of_mem _ (look_of h)
/-- f by a table of its answers at tuples of ints -/
def byT (t : List (List Int × Int)) (f : Fg) : Fg := fun args => match args with
  | [.tup us] => (match toInts us with
    | some ns => (match look t ns with | some n => .ok (.int n) | none => f args)
    | none => f args)
  | _ => f args
theorem toInts_map : ∀ {xs : List U} {ns : List Int}, toInts xs = some ns → xs = ns.map .int
  | [], _, h => by cases h; rfl
  | x :: r, ns, h => by
    cases x with
    | int i =>
      unfold toInts at h
      split at h
      · rename_i ys q
        cases h
        rw [List.map_cons, ← toInts_map (xs := r) (ns := ys) q]
      · cases h
    | _ => cases h
theorem byT_eq {t : List (List Int × Int)} {f : Fg} (h : ∀ p ∈ t, isI (f [.tup (p.1.map .int)]) p.2 = true) : byT t f = f := by
  funext args
  unfold byT
  split
  · rename_i us
    split
    · rename_i ns q
      split
      · rename_i n q2
        have := isI_of (h _ (look_of q2))
        rw [toInts_map q]
        exact this.symm
      · rfl
    · rfl
  · rfl
end Fn
namespace K26
open PySem PySem.Spec PyProof.Rows L2 Fn
def topS (i : Nat) : Stmt := PySem.Challenge.pw_tablelaws_k26_counts.main.body.getD i (.Pass ⟨0, 0, 0, 0⟩)
abbrev s_check_size : Stmt := topS 8
theorem sc_check_size : FnScope ["size"] ["size"] (defScope s_check_size) := ⟨rfl, rfl, rfl, by decide +kernel, rfl, by decide +kernel, by decide +kernel⟩
abbrev s_shapes_of : Stmt := topS 10
theorem sc_shapes_of : FnScope ["places", "columns", "shapes", "first", "rest"] ["places", "columns"] (defScope s_shapes_of) := ⟨rfl, rfl, rfl, by decide +kernel, rfl, by decide +kernel, by decide +kernel⟩
abbrev s__without_corner : Stmt := topS 13
theorem sc__without_corner : FnScope ["shape", "smaller", "at", "length", "below"] ["shape"] (defScope s__without_corner) := ⟨rfl, rfl, rfl, by decide +kernel, rfl, by decide +kernel, by decide +kernel⟩
abbrev s__law_cell : Stmt := topS 15
theorem sc__law_cell : FnScope ["script", "k"] ["script", "k"] (defScope s__law_cell) := ⟨rfl, rfl, rfl, by decide +kernel, rfl, by decide +kernel, by decide +kernel⟩
abbrev s__law_longest : Stmt := topS 17
theorem sc__law_longest : FnScope ["perm", "ranks", "at", "to"] ["perm"] (defScope s__law_longest) := ⟨rfl, rfl, rfl, by decide +kernel, rfl, by decide +kernel, by decide +kernel⟩
abbrev s__law_listed : Stmt := topS 18
theorem sc__law_listed : FnScope ["count", "rows", "at", "longer", "row", "to"] ["count"] (defScope s__law_listed) := ⟨rfl, rfl, rfl, by decide +kernel, rfl, by decide +kernel, by decide +kernel⟩
abbrev s__law_grown : Stmt := topS 19
theorem sc__law_grown : FnScope ["cells", "ways", "turn", "more", "shape", "at", "row", "larger", "length"] ["cells"] (defScope s__law_grown) := ⟨rfl, rfl, rfl, by decide +kernel, rfl, by decide +kernel, by decide +kernel⟩
abbrev s__law_hooks : Stmt := topS 20
theorem sc__law_hooks : FnScope ["shape", "result", "at", "to", "below", "length"] ["shape"] (defScope s__law_hooks) := ⟨rfl, rfl, rfl, by decide +kernel, rfl, by decide +kernel, by decide +kernel⟩
abbrev s__law_is_count : Stmt := topS 21
theorem sc__law_is_count : FnScope ["told", "due"] ["told", "due"] (defScope s__law_is_count) := ⟨rfl, rfl, rfl, by decide +kernel, rfl, by decide +kernel, by decide +kernel⟩
abbrev s_filling_count : Stmt := topS 11
theorem sc_filling_count : FnScope ["shape", "counts", "_", "fewer", "larger", "smaller"] ["shape"] (defScope s_filling_count) := ⟨rfl, rfl, rfl, by decide +kernel, rfl, by decide +kernel, by decide +kernel⟩
abbrev s__law_number : Stmt := topS 16
theorem sc__law_number : FnScope ["script", "k", "number"] ["script", "k"] (defScope s__law_number) := ⟨rfl, rfl, rfl, by decide +kernel, rfl, by decide +kernel, by decide +kernel⟩
abbrev s__law_same_shapes : Stmt := topS 22
theorem sc__law_same_shapes : FnScope ["told", "due", "at", "shape", "to"] ["told", "due"] (defScope s__law_same_shapes) := ⟨rfl, rfl, rfl, by decide +kernel, rfl, by decide +kernel, by decide +kernel⟩
abbrev s_good_count : Stmt := topS 12
theorem sc_good_count : FnScope ["size", "places", "shape"] ["size", "places"] (defScope s_good_count) := ⟨rfl, rfl, rfl, by decide +kernel, rfl, by decide +kernel, by decide +kernel⟩
abbrev s__law_refused : Stmt := topS 23
theorem sc__law_refused : FnScope ["size", "cells", "e"] ["size", "cells"] (defScope s__law_refused) := ⟨rfl, rfl, rfl, by decide +kernel, rfl, by decide +kernel, by decide +kernel⟩
abbrev s_law : Stmt := topS 24
theorem sc_law : FnScope ["script", "number", "cells", "columns", "size", "other", "span", "ways", "every", "due", "told", "factorial", "at", "squares", "narrow", "shape", "count", "perm"] ["script"] (defScope s_law) := ⟨rfl, rfl, rfl, by decide +kernel, rfl, by decide +kernel, by decide +kernel⟩
def BAD : List (List Key) := [[.inl 1, .inl 2, .inl 3]]
theorem kt_SIZES : ([.inl 1, .inl 2, .inl 3] : List Key) ∈ BAD := by simp [BAD]
structure Facts (K : PySem.W.Frag) (mg : Str → Option Value) where
  z_abs : mg "abs" = none
  z_bool : mg "bool" = none
  z_enumerate : mg "enumerate" = none
  z_int : mg "int" = none
  z_isinstance : mg "isinstance" = none
  z_len : mg "len" = none
  z_list : mg "list" = none
  z_max : mg "max" = none
  z_min : mg "min" = none
  z_range : mg "range" = none
  z_sorted : mg "sorted" = none
  z_sum : mg "sum" = none
  z_tuple : mg "tuple" = none
  a_check_size : Addr
  fd_check_size : FuncData
  F_check_size : Fun K "check_size" "check_size" s_check_size a_check_size fd_check_size
  b_check_size : Binds K fd_check_size ["size"] []
  g_check_size : mg "check_size" = some (.ref a_check_size)
  a_shapes_of : Addr
  fd_shapes_of : FuncData
  F_shapes_of : Fun K "shapes_of" "shapes_of" s_shapes_of a_shapes_of fd_shapes_of
  b_shapes_of : Binds K fd_shapes_of ["places", "columns"] []
  g_shapes_of : mg "shapes_of" = some (.ref a_shapes_of)
  a__without_corner : Addr
  fd__without_corner : FuncData
  F__without_corner : Fun K "_without_corner" "_without_corner" s__without_corner a__without_corner fd__without_corner
  b__without_corner : Binds K fd__without_corner ["shape"] []
  g__without_corner : mg "_without_corner" = some (.ref a__without_corner)
  a__law_cell : Addr
  fd__law_cell : FuncData
  F__law_cell : Fun K "_law_cell" "_law_cell" s__law_cell a__law_cell fd__law_cell
  b__law_cell : Binds K fd__law_cell ["script", "k"] []
  g__law_cell : mg "_law_cell" = some (.ref a__law_cell)
  a__law_longest : Addr
  fd__law_longest : FuncData
  F__law_longest : Fun K "_law_longest" "_law_longest" s__law_longest a__law_longest fd__law_longest
  b__law_longest : Binds K fd__law_longest ["perm"] []
  g__law_longest : mg "_law_longest" = some (.ref a__law_longest)
  a__law_listed : Addr
  fd__law_listed : FuncData
  F__law_listed : Fun K "_law_listed" "_law_listed" s__law_listed a__law_listed fd__law_listed
  b__law_listed : Binds K fd__law_listed ["count"] []
  g__law_listed : mg "_law_listed" = some (.ref a__law_listed)
  a__law_grown : Addr
  fd__law_grown : FuncData
  F__law_grown : Fun K "_law_grown" "_law_grown" s__law_grown a__law_grown fd__law_grown
  b__law_grown : Binds K fd__law_grown ["cells"] []
  g__law_grown : mg "_law_grown" = some (.ref a__law_grown)
  a__law_hooks : Addr
  fd__law_hooks : FuncData
  F__law_hooks : Fun K "_law_hooks" "_law_hooks" s__law_hooks a__law_hooks fd__law_hooks
  b__law_hooks : Binds K fd__law_hooks ["shape"] []
  g__law_hooks : mg "_law_hooks" = some (.ref a__law_hooks)
  a__law_is_count : Addr
  fd__law_is_count : FuncData
  F__law_is_count : Fun K "_law_is_count" "_law_is_count" s__law_is_count a__law_is_count fd__law_is_count
  b__law_is_count : Binds K fd__law_is_count ["told", "due"] []
  g__law_is_count : mg "_law_is_count" = some (.ref a__law_is_count)
  a_filling_count : Addr
  fd_filling_count : FuncData
  F_filling_count : Fun K "filling_count" "filling_count" s_filling_count a_filling_count fd_filling_count
  b_filling_count : Binds K fd_filling_count ["shape"] []
  g_filling_count : mg "filling_count" = some (.ref a_filling_count)
  a__law_number : Addr
  fd__law_number : FuncData
  F__law_number : Fun K "_law_number" "_law_number" s__law_number a__law_number fd__law_number
  b__law_number : Binds K fd__law_number ["script", "k"] []
  g__law_number : mg "_law_number" = some (.ref a__law_number)
  a__law_same_shapes : Addr
  fd__law_same_shapes : FuncData
  F__law_same_shapes : Fun K "_law_same_shapes" "_law_same_shapes" s__law_same_shapes a__law_same_shapes fd__law_same_shapes
  b__law_same_shapes : Binds K fd__law_same_shapes ["told", "due"] []
  g__law_same_shapes : mg "_law_same_shapes" = some (.ref a__law_same_shapes)
  a_good_count : Addr
  fd_good_count : FuncData
  F_good_count : Fun K "good_count" "good_count" s_good_count a_good_count fd_good_count
  b_good_count : Binds K fd_good_count ["size", "places"] []
  g_good_count : mg "good_count" = some (.ref a_good_count)
  a__law_refused : Addr
  fd__law_refused : FuncData
  F__law_refused : Fun K "_law_refused" "_law_refused" s__law_refused a__law_refused fd__law_refused
  b__law_refused : Binds K fd__law_refused ["size", "cells"] []
  g__law_refused : mg "_law_refused" = some (.ref a__law_refused)
  a_law : Addr
  fd_law : FuncData
  F_law : Fun K "law" "law" s_law a_law fd_law
  b_law : Binds K fd_law ["script"] []
  g_law : mg "law" = some (.ref a_law)
  c_TableError : Addr
  x_TableError : XcC K mg "TableError" c_TableError
  ec_TableError : ExcC K c_TableError
  c_WrongSize : Addr
  x_WrongSize : XcC K mg "WrongSize" c_WrongSize
  e_WrongSize : PySem.W.excIn K c_WrongSize veB "ValueError.__new__" = true
  ec_WrongSize : ExcC K c_WrongSize
  c_WrongKind : Addr
  x_WrongKind : XcC K mg "WrongKind" c_WrongKind
  ec_WrongKind : ExcC K c_WrongKind
  c_InvalidPermutation : Addr
  x_InvalidPermutation : XcC K mg "InvalidPermutation" c_InvalidPermutation
  ec_InvalidPermutation : ExcC K c_InvalidPermutation
  c_TooLarge : Addr
  x_TooLarge : XcC K mg "TooLarge" c_TooLarge
  ec_TooLarge : ExcC K c_TooLarge
  s_InvalidPermutation_InvalidPermutation : PySem.W.subIn K (.ref c_InvalidPermutation) (.ref c_InvalidPermutation) = some true
  s_InvalidPermutation_TableError : PySem.W.subIn K (.ref c_InvalidPermutation) (.ref c_TableError) = some true
  s_InvalidPermutation_TooLarge : PySem.W.subIn K (.ref c_InvalidPermutation) (.ref c_TooLarge) = some false
  s_InvalidPermutation_WrongKind : PySem.W.subIn K (.ref c_InvalidPermutation) (.ref c_WrongKind) = some false
  s_InvalidPermutation_WrongSize : PySem.W.subIn K (.ref c_InvalidPermutation) (.ref c_WrongSize) = some false
  s_TableError_InvalidPermutation : PySem.W.subIn K (.ref c_TableError) (.ref c_InvalidPermutation) = some false
  s_TableError_TableError : PySem.W.subIn K (.ref c_TableError) (.ref c_TableError) = some true
  s_TableError_TooLarge : PySem.W.subIn K (.ref c_TableError) (.ref c_TooLarge) = some false
  s_TableError_WrongKind : PySem.W.subIn K (.ref c_TableError) (.ref c_WrongKind) = some false
  s_TableError_WrongSize : PySem.W.subIn K (.ref c_TableError) (.ref c_WrongSize) = some false
  s_TooLarge_InvalidPermutation : PySem.W.subIn K (.ref c_TooLarge) (.ref c_InvalidPermutation) = some false
  s_TooLarge_TableError : PySem.W.subIn K (.ref c_TooLarge) (.ref c_TableError) = some true
  s_TooLarge_TooLarge : PySem.W.subIn K (.ref c_TooLarge) (.ref c_TooLarge) = some true
  s_TooLarge_WrongKind : PySem.W.subIn K (.ref c_TooLarge) (.ref c_WrongKind) = some false
  s_TooLarge_WrongSize : PySem.W.subIn K (.ref c_TooLarge) (.ref c_WrongSize) = some false
  s_WrongKind_InvalidPermutation : PySem.W.subIn K (.ref c_WrongKind) (.ref c_InvalidPermutation) = some false
  s_WrongKind_TableError : PySem.W.subIn K (.ref c_WrongKind) (.ref c_TableError) = some true
  s_WrongKind_TooLarge : PySem.W.subIn K (.ref c_WrongKind) (.ref c_TooLarge) = some false
  s_WrongKind_WrongKind : PySem.W.subIn K (.ref c_WrongKind) (.ref c_WrongKind) = some true
  s_WrongKind_WrongSize : PySem.W.subIn K (.ref c_WrongKind) (.ref c_WrongSize) = some false
  s_WrongSize_InvalidPermutation : PySem.W.subIn K (.ref c_WrongSize) (.ref c_InvalidPermutation) = some false
  s_WrongSize_TableError : PySem.W.subIn K (.ref c_WrongSize) (.ref c_TableError) = some true
  s_WrongSize_TooLarge : PySem.W.subIn K (.ref c_WrongSize) (.ref c_TooLarge) = some false
  s_WrongSize_WrongKind : PySem.W.subIn K (.ref c_WrongSize) (.ref c_WrongKind) = some false
  s_WrongSize_WrongSize : PySem.W.subIn K (.ref c_WrongSize) (.ref c_WrongSize) = some true
  a_SIZES : Addr
  g_SIZES : mg "SIZES" = some (.ref a_SIZES)
  t_SIZES : ∀ H, SqT K H a_SIZES [.int 1, .int 2, .int 3]
def G0 {K : PySem.W.Frag} {mg : Str → Option Value} (T : Facts K mg) : Cfg := ⟨K, fun i => match i with | 0 => T.c_TableError | 1 => T.c_WrongSize | 2 => T.c_WrongKind | 3 => T.c_InvalidPermutation | 4 => T.c_TooLarge | _ => 0, fun _ => [], fun vs => ∃ k ∈ BAD, vs = k.map kV⟩
theorem hbad {K : PySem.W.Frag} {mg : Str → Option Value} (T : Facts K mg) : Kts (G0 T) BAD := fun _ h => h
section
variable {P : Program} {w : World} {K : PySem.W.Frag} {mg : Str → Option Value} {base : Heap}
def B_check_size : Sv := (gIf (bE (e2 (kIn true) (eVar 0) (eC (.tup [(.int 1), (.int 2), (.int 3)])))) (gRaise 1) gNx)
def F_check_size : Fg := runG 1 B_check_size
theorem ok_check_size (T : Facts K mg) : FnOk P w K mg base (L2.CX P w) 1 T.a_check_size T.fd_check_size ["size"] (fnG (G0 T) 1 F_check_size) :=
  okG T.F_check_size sc_check_size fun cdv A outer s H E hr W tk => by
  have nd := sc_check_size.nd
  unfold B_check_size
  exact (ss_one (s_if (t_notin rfl (f_var (i := 0)) (f_globT (by rfl) T.g_SIZES (fun w => .tup ⟨T.t_SIZES w.H, .inl ⟨_, kt_SIZES, rfl⟩⟩ (.cons (.int 1) (.cons (.int 2) (.cons (.int 3) .nil)))))) (ss_one (s_raise rfl tk T.x_WrongSize T.e_WrongSize (by rfl))) ss_nil))
def B_shapes_of : Fh → Sv := fun FF => (gSeq (gIf (bE (e2 kEq (eVar 0) (eC (.int 0)))) (gRet (eT (eLst (eCons (eTup eNil) eNil)))) gNx)
  (gSeq (gSet 2 (eT (eLst eNil)))
  (gSeq (gFor (ir3 (eCall kMin (eCons (eVar 0) (eCons (eVar 1) eNil))) (eC (.int 0)) (e1 kNeg (eC (.int 1)))) (aName 3)
  (gFor (eSeq (eCallH 2 FF (eCons (e2 (kI0 fun i j => i - j) (eVar 0) (eVar 3)) (eCons (eVar 3) eNil)))) (aName 4)
  (gEx (eMt kAppend (eVar 2) (eCons (e2 kAdd (eTup (eCons (eVar 3) eNil)) (eVar 4)) eNil)))))
  (gRet (eVar 2)))))
def F_shapes_of : Nat → Fh
  | 0 => fun _ _ => .no
  | n + 1 => runH 5 (B_shapes_of (F_shapes_of n))
theorem ok_shapes_of (T : Facts K mg) : ∀ n : Nat, FnOk P w K mg base (L2.CX P w) (1 + n) T.a_shapes_of T.fd_shapes_of ["places", "columns"] (fnH (G0 T) 2 (F_shapes_of n))
  | 0 => ⟨fun _ _ _ _ h => h.1, fun _ _ _ _ _ _ _ _ _ _ _ _ _ h => by obtain ⟨_, h⟩ := h; obtain ⟨us, w, _, _, _, h⟩ := h; exact h.elim⟩
  | n + 1 => okH T.F_shapes_of sc_shapes_of fun cdv A outer s H E hr W tk => by
    have nd := sc_shapes_of.nd
    unfold B_shapes_of
    exact (ss_cons (s_if (t_eq (hr.mono (Nat.zero_le _)) rfl (f_var (i := 0)) f_int) (ss_one (s_ret (f_tr (f_lst (fa_cons (f_tup fa_nil) fa_nil))))) ss_nil)
  (ss_cons (s_set (i := 2) nd rfl (by first | exact .inl rfl | exact .inr rfl) (f_tr (f_lst fa_nil)))
  (ss_cons (s_for (passes_of rfl) rfl (i_rng3 (by rfl) T.z_range (f_min rfl rfl (by rfl) T.z_min (fa_cons (f_var (i := 0)) (fa_cons (f_var (i := 1)) fa_nil))) f_int (f_neg f_int)) (g_name (i := 3) nd rfl (by first | exact .inl rfl | exact .inr rfl))
  (ss_one (s_for (passes_of rfl) rfl (i_seq rfl (f_callH (ok_shapes_of T n) (hr.mono (by first | exact Nat.le_refl _ | (simp only [Nat.add_eq]; omega))) (by rfl) T.g_shapes_of T.F_shapes_of.kp T.b_shapes_of tk (fa_cons (f_sub (f_var (i := 0)) (f_var (i := 3))) (fa_cons (f_var (i := 3)) fa_nil)))) (g_name (i := 4) nd rfl (by first | exact .inl rfl | exact .inr rfl))
  (ss_one (s_expr (f_append rfl (f_var (i := 2)) (fa_cons (f_add rfl (f_tup (fa_cons (f_var (i := 3)) fa_nil)) (f_var (i := 4))) fa_nil)))))))
  (ss_one (s_ret (f_var (i := 2)))))))
def B__without_corner : Sv := (gSeq (gSet 1 (eT (eLst eNil)))
  (gSeq (gFor (ien (eCons (eVar 0) eNil)) (aTup (aCons (aName 2) (aCons (aName 3) aNil)))
  (gSeq (gSet 4 (eSl (eVar 0) (oE (e2 kAdd (eVar 2) (eC (.int 1)))) oNo))
  (gIf (bAnd (bE (e2 kEq (eVar 3) (eC (.int 1)))) (bNot (bTru (eVar 4)))) (gEx (eMt kAppend (eVar 1) (eCons (eSl (eVar 0) oNo (oE (eVar 2))) eNil))) (gIf (bAnd (bE (e2 kGt (eVar 3) (eC (.int 1)))) (bOr (bNot (bTru (eVar 4))) (bE (e2 kLt (e2 kIx (eVar 4) (eC (.int 0))) (eVar 3))))) (gEx (eMt kAppend (eVar 1) (eCons (e2 kAdd (e2 kAdd (eSl (eVar 0) oNo (oE (eVar 2))) (eTup (eCons (e2 (kI0 fun i j => i - j) (eVar 3) (eC (.int 1))) eNil))) (eVar 4)) eNil))) gNx))))
  (gRet (eVar 1))))
def F__without_corner : Fg := runG 5 B__without_corner
theorem ok__without_corner (T : Facts K mg) : FnOk P w K mg base (L2.CX P w) 1 T.a__without_corner T.fd__without_corner ["shape"] (fnG (G0 T) 1 F__without_corner) :=
  okG T.F__without_corner sc__without_corner fun cdv A outer s H E hr W tk => by
  have nd := sc__without_corner.nd
  unfold B__without_corner
  exact (ss_cons (s_set (i := 1) nd rfl (by first | exact .inl rfl | exact .inr rfl) (f_tr (f_lst fa_nil)))
  (ss_cons (s_for (passes_of rfl) rfl (i_enum rfl (by rfl) T.z_enumerate (fa_cons (f_var (i := 0)) fa_nil)) (g_tup rfl rfl (gs_cons (g_name (i := 2) nd rfl (by first | exact .inl rfl | exact .inr rfl)) (gs_cons (g_name (i := 3) nd rfl (by first | exact .inl rfl | exact .inr rfl)) gs_nil)) (aCons_len (aCons_len aNil_len)))
  (ss_cons (s_set (i := 4) nd rfl (by first | exact .inl rfl | exact .inr rfl) (f_sl rfl (f_var (i := 0)) (fo_e (f_add rfl (f_var (i := 2)) f_int)) fo_no))
  (ss_one (s_if (w_pt (w_and (t_eq (hr.mono (Nat.zero_le _)) rfl (f_var (i := 3)) f_int) (w_and1 (t_not (t_tru rfl (f_var (i := 4))))))) (ss_one (s_expr (f_append rfl (f_var (i := 1)) (fa_cons (f_sl rfl (f_var (i := 0)) fo_no (fo_e (f_var (i := 2)))) fa_nil)))) (ss_one (s_if (w_pt (w_and (t_gt (f_var (i := 3)) f_int) (w_and1 (w_pt (w_or (t_not (t_tru rfl (f_var (i := 4)))) (w_or1 (t_lt (f_ix rfl (f_var (i := 4)) f_int) (f_var (i := 3))))))))) (ss_one (s_expr (f_append rfl (f_var (i := 1)) (fa_cons (f_add rfl (f_add rfl (f_sl rfl (f_var (i := 0)) fo_no (fo_e (f_var (i := 2)))) (f_tup (fa_cons (f_sub (f_var (i := 3)) f_int) fa_nil))) (f_var (i := 4))) fa_nil)))) ss_nil))))))
  (ss_one (s_ret (f_var (i := 1))))))
def B__law_cell : Sv := (gSeq (gIf (bE (e2 kLt (eVar 1) (eCall kLen (eCons (eVar 0) eNil)))) (gRet (e2 kIx (eVar 0) (eVar 1))) gNx)
  (gRet (e2 kAdd (e2 kAdd (e2 kMul (eC (.int 17)) (eVar 1)) (e2 kMul (eC (.int 3)) (eCall kLen (eCons (eVar 0) eNil)))) (eC (.int 1)))))
def F__law_cell : Fg := runG 2 B__law_cell
theorem ok__law_cell (T : Facts K mg) : FnOk P w K mg base (L2.CX P w) 1 T.a__law_cell T.fd__law_cell ["script", "k"] (fnG (G0 T) 2 F__law_cell) :=
  okG T.F__law_cell sc__law_cell fun cdv A outer s H E hr W tk => by
  have nd := sc__law_cell.nd
  unfold B__law_cell
  exact (ss_cons (s_if (t_lt (f_var (i := 1)) (f_len rfl (by rfl) T.z_len (fa_cons (f_var (i := 0)) fa_nil))) (ss_one (s_ret (f_ix rfl (f_var (i := 0)) (f_var (i := 1))))) ss_nil)
  (ss_one (s_ret (f_add rfl (f_add rfl (f_mul f_int (f_var (i := 1))) (f_mul f_int (f_len rfl (by rfl) T.z_len (fa_cons (f_var (i := 0)) fa_nil)))) f_int))))
def B__law_longest : Sv := (gSeq (gSet 1 (eT (eLst (eCons (eC (.int 0)) eNil))))
  (gSeq (gFor (ir1 (eCall kLen (eCons (eVar 0) eNil))) (aName 2)
  (gEx (eMt kAppend (eVar 1) (eCons (e2 kAdd (eC (.int 1)) (eCall kMax (eCons (e2 kAdd (eF (eLst (eCons (eC (.int 0)) eNil))) (eF (eLc (ir1 (eVar 2)) (aName 3) (bE (e2 kGt (e2 kIx (eVar 0) (eVar 3)) (e2 kIx (eVar 0) (eVar 2)))) (e2 kIx (eVar 1) (e2 kAdd (eVar 3) (eC (.int 1)))) [3]))) eNil))) eNil))))
  (gRet (eCall kMax (eCons (eVar 1) eNil)))))
def F__law_longest : Fg := runG 4 B__law_longest
theorem ok__law_longest (T : Facts K mg) : FnOk P w K mg base (L2.CX P w) 1 T.a__law_longest T.fd__law_longest ["perm"] (fnG (G0 T) 1 F__law_longest) :=
  okG T.F__law_longest sc__law_longest fun cdv A outer s H E hr W tk => by
  have nd := sc__law_longest.nd
  unfold B__law_longest
  exact (ss_cons (s_set (i := 1) nd rfl (by first | exact .inl rfl | exact .inr rfl) (f_tr (f_lst (fa_cons f_int fa_nil))))
  (ss_cons (s_for (passes_of rfl) rfl (i_rng1 (by rfl) T.z_range (f_len rfl (by rfl) T.z_len (fa_cons (f_var (i := 0)) fa_nil))) (g_name (i := 2) nd rfl (by first | exact .inl rfl | exact .inr rfl))
  (ss_one (s_expr (f_append rfl (f_var (i := 1)) (fa_cons (f_add rfl f_int (f_max rfl rfl (by rfl) T.z_max (fa_cons (f_add rfl (f_fz (f_lst (fa_cons f_int fa_nil))) (f_fz (f_lc (own := [("to", 3)]) (sl := [3]) rfl nd (i_rng1 (by rfl) T.z_range (f_var (i := 2))) (blkOk_by (by kernel_rfl)) (fun _ _ _ _ _ => (g_name (i := 3) nd rfl (by first | exact .inl rfl | exact .inr rfl))) (fun _ _ _ _ _ => (ts_one (t_gt (f_ix rfl (f_var (i := 0)) (f_var (i := 3))) (f_ix rfl (f_var (i := 0)) (f_var (i := 2)))))) (fun _ _ _ _ _ => (f_ix rfl (f_var (i := 1)) (f_add rfl (f_var (i := 3)) f_int))) (by decide)))) fa_nil))) fa_nil)))))
  (ss_one (s_ret (f_max rfl rfl (by rfl) T.z_max (fa_cons (f_var (i := 1)) fa_nil))))))
def B__law_listed : Sv := (gSeq (gSet 1 (eF (eLst (eCons (eF (eLst eNil)) eNil))))
  (gSeq (gFor (ir1 (eVar 0)) (aName 2)
  (gSeq (gSet 3 (eT (eLst eNil)))
  (gSeq (gFor (eSeq (eF (eListOf (eCons (eVar 1) eNil)))) (aName 4)
  (gFor (ir2 (eC (.int 1)) (e2 kAdd (eVar 0) (eC (.int 1)))) (aName 5)
  (gIf (bE (e2 (kIn true) (eVar 5) (eVar 4))) (gEx (eMt kAppend (eVar 3) (eCons (e2 kAdd (eVar 4) (eF (eLst (eCons (eVar 5) eNil)))) eNil))) gNx)))
  (gSet 1 (eF (eListOf (eCons (eVar 3) eNil)))))))
  (gRet (eF (eLc (eSeq (eVar 1)) (aName 4) bYes (eCall kTupC (eCons (eVar 4) eNil)) [4])))))
def F__law_listed : Fg := runG 6 B__law_listed
theorem ok__law_listed (T : Facts K mg) : FnOk P w K mg base (L2.CX P w) 1 T.a__law_listed T.fd__law_listed ["count"] (fnG (G0 T) 1 F__law_listed) :=
  okG T.F__law_listed sc__law_listed fun cdv A outer s H E hr W tk => by
  have nd := sc__law_listed.nd
  unfold B__law_listed
  exact (ss_cons (s_set (i := 1) nd rfl (by first | exact .inl rfl | exact .inr rfl) (f_fz (f_lst (fa_cons (f_fz (f_lst fa_nil)) fa_nil))))
  (ss_cons (s_for (passes_of rfl) rfl (i_rng1 (by rfl) T.z_range (f_var (i := 0))) (g_name (i := 2) nd rfl (by first | exact .inl rfl | exact .inr rfl))
  (ss_cons (s_set (i := 3) nd rfl (by first | exact .inl rfl | exact .inr rfl) (f_tr (f_lst fa_nil)))
  (ss_cons (s_for (passes_of rfl) rfl (i_seq rfl (f_fz (f_listc rfl (by rfl) T.z_list (fa_cons (f_var (i := 1)) fa_nil)))) (g_name (i := 4) nd rfl (by first | exact .inl rfl | exact .inr rfl))
  (ss_one (s_for (passes_of rfl) rfl (i_rng2 (by rfl) T.z_range f_int (f_add rfl (f_var (i := 0)) f_int)) (g_name (i := 5) nd rfl (by first | exact .inl rfl | exact .inr rfl))
  (ss_one (s_if (t_notin rfl (f_var (i := 5)) (f_var (i := 4))) (ss_one (s_expr (f_append rfl (f_var (i := 3)) (fa_cons (f_add rfl (f_var (i := 4)) (f_fz (f_lst (fa_cons (f_var (i := 5)) fa_nil)))) fa_nil)))) ss_nil)))))
  (ss_one (s_set (i := 1) nd rfl (by first | exact .inl rfl | exact .inr rfl) (f_fz (f_listc rfl (by rfl) T.z_list (fa_cons (f_var (i := 3)) fa_nil))))))))
  (ss_one (s_ret (f_fz (f_lc (own := [("row", 4)]) (sl := [4]) rfl nd (i_seq rfl (f_var (i := 1))) (blkOk_by (by kernel_rfl)) (fun _ _ _ _ _ => (g_name (i := 4) nd rfl (by first | exact .inl rfl | exact .inr rfl))) (fun _ _ _ _ _ => ts_nil) (fun _ _ _ _ _ => (f_tupc rfl (by rfl) T.z_tuple (fa_cons (f_var (i := 4)) fa_nil))) (by decide)))))))
def B__law_grown : Sv := (gSeq (gSet 1 (eDisp1T BAD (eTup eNil) (eC (.int 1))))
  (gSeq (gFor (ir1 (eVar 0)) (aName 2)
  (gSeq (gSet 3 eDnewT)
  (gSeq (gFor (eSeq (eF (eListDT (eCons (eVar 1) eNil)))) (aName 4)
  (gFor (ir1 (e2 kAdd (eCall kLen (eCons (eVar 4) eNil)) (eC (.int 1)))) (aName 5)
  (gSeq (gSet 6 (eT (eN2 nCat (eF (eListOf (eCons (eVar 4) eNil))) (eF (eLst (eCons (eC (.int 0)) eNil))))))
  (gSeq (gPut (eVar 6) (eVar 5) (e2 kAdd (e2 kIx (eVar 6) (eVar 5)) (eC (.int 1))))
  (gSeq (gIf (bAnd (bE (e2 kGt (eVar 5) (eC (.int 0)))) (bE (e2 kGt (e2 kIx (eVar 6) (eVar 5)) (e2 kIx (eVar 6) (e2 (kI0 fun i j => i - j) (eVar 5) (eC (.int 1))))))) gCt gNx)
  (gSeq (gSet 7 (eCall kTupC (eCons (eF (eLc (eSeq (eVar 6)) (aName 8) (bE (e2 kGt (eVar 8) (eC (.int 0)))) (eVar 8) [8])) eNil)))
  (gPutT BAD (eVar 3) (eVar 7) (e2 kAdd (eDget2T BAD (eVar 3) (eVar 7) (eC (.int 0))) (e2 (kDgetT BAD) (eVar 1) (eVar 4))))))))))
  (gSet 1 (eVar 3)))))
  (gRet (eVar 1))))
def F__law_grown : Fh := runH 9 B__law_grown
theorem ok__law_grown (T : Facts K mg) : FnOk P w K mg base (L2.CX P w) 1 T.a__law_grown T.fd__law_grown ["cells"] (fnH (G0 T) 1 F__law_grown) :=
  okH T.F__law_grown sc__law_grown fun cdv A outer s H E hr W tk => by
  have nd := sc__law_grown.nd
  unfold B__law_grown
  exact (ss_cons (s_set (i := 1) nd rfl (by first | exact .inl rfl | exact .inr rfl) (f_disp1T (hbad T) (hr.mono (Nat.zero_le _)) (f_tup fa_nil) f_int))
  (ss_cons (s_for (passes_of rfl) rfl (i_rng1 (by rfl) T.z_range (f_var (i := 0))) (g_name (i := 2) nd rfl (by first | exact .inl rfl | exact .inr rfl))
  (ss_cons (s_set (i := 3) nd rfl (by first | exact .inl rfl | exact .inr rfl) f_dnewT)
  (ss_cons (s_for (passes_of rfl) rfl (i_seq rfl (f_fz (f_listDT rfl (by rfl) T.z_list (fa_cons (f_var (i := 1)) fa_nil)))) (g_name (i := 4) nd rfl (by first | exact .inl rfl | exact .inr rfl))
  (ss_one (s_for (passes_of rfl) rfl (i_rng1 (by rfl) T.z_range (f_add rfl (f_len rfl (by rfl) T.z_len (fa_cons (f_var (i := 4)) fa_nil)) f_int)) (g_name (i := 5) nd rfl (by first | exact .inl rfl | exact .inr rfl))
  (ss_cons (s_set (i := 6) nd rfl (by first | exact .inl rfl | exact .inr rfl) (f_tr (f_catN (f_fz (f_listc rfl (by rfl) T.z_list (fa_cons (f_var (i := 4)) fa_nil))) (f_fz (f_lst (fa_cons f_int fa_nil))))))
  (ss_cons (s_put (f_add rfl (f_ix rfl (f_var (i := 6)) (f_var (i := 5))) f_int) (f_var (i := 6)) (f_var (i := 5)))
  (ss_cons (s_if (w_pt (w_and (t_gt (f_var (i := 5)) f_int) (w_and1 (t_gt (f_ix rfl (f_var (i := 6)) (f_var (i := 5))) (f_ix rfl (f_var (i := 6)) (f_sub (f_var (i := 5)) f_int)))))) (ss_one s_continue) ss_nil)
  (ss_cons (s_set (i := 7) nd rfl (by first | exact .inl rfl | exact .inr rfl) (f_tupc rfl (by rfl) T.z_tuple (fa_cons (f_fz (f_lc (own := [("length", 8)]) (sl := [8]) rfl nd (i_seq rfl (f_var (i := 6))) (blkOk_by (by kernel_rfl)) (fun _ _ _ _ _ => (g_name (i := 8) nd rfl (by first | exact .inl rfl | exact .inr rfl))) (fun _ _ _ _ _ => (ts_one (t_gt (f_var (i := 8)) f_int))) (fun _ _ _ _ _ => (f_var (i := 8))) (by decide))) fa_nil)))
  (ss_one (s_dputT (hbad T) (hr.mono (Nat.zero_le _)) (f_add rfl (f_dget2T (hbad T) (hr.mono (Nat.zero_le _)) (f_var (i := 3)) (f_var (i := 7)) f_int ⟨by rfl, by rfl, by rfl, by rfl⟩) (f_dgetT (hbad T) (hr.mono (Nat.zero_le _)) (f_var (i := 1)) (f_var (i := 4)))) (f_var (i := 3)) (f_var (i := 7)))))))))))
  (ss_one (s_set (i := 1) nd rfl (by first | exact .inl rfl | exact .inr rfl) (f_var (i := 3)))))))
  (ss_one (s_ret (f_var (i := 1))))))
def B__law_hooks : Sv := (gSeq (gSet 1 (eC (.int 1)))
  (gSeq (gFor (ir1 (eCall kLen (eCons (eVar 0) eNil))) (aName 2)
  (gFor (ir1 (e2 kIx (eVar 0) (eVar 2))) (aName 3)
  (gSeq (gSet 4 (eCall kLen (eCons (eF (eLc (eSeq (eSl (eVar 0) (oE (e2 kAdd (eVar 2) (eC (.int 1)))) oNo)) (aName 5) (bE (e2 kGt (eVar 5) (eVar 3))) (eVar 5) [5])) eNil)))
  (gSet 1 (e2 kMul (eVar 1) (e2 kAdd (e2 (kI0 fun i j => i - j) (e2 kIx (eVar 0) (eVar 2)) (eVar 3)) (eVar 4)))))))
  (gRet (eVar 1))))
def F__law_hooks : Fg := runG 6 B__law_hooks
theorem ok__law_hooks (T : Facts K mg) : FnOk P w K mg base (L2.CX P w) 1 T.a__law_hooks T.fd__law_hooks ["shape"] (fnG (G0 T) 1 F__law_hooks) :=
  okG T.F__law_hooks sc__law_hooks fun cdv A outer s H E hr W tk => by
  have nd := sc__law_hooks.nd
  unfold B__law_hooks
  exact (ss_cons (s_set (i := 1) nd rfl (by first | exact .inl rfl | exact .inr rfl) f_int)
  (ss_cons (s_for (passes_of rfl) rfl (i_rng1 (by rfl) T.z_range (f_len rfl (by rfl) T.z_len (fa_cons (f_var (i := 0)) fa_nil))) (g_name (i := 2) nd rfl (by first | exact .inl rfl | exact .inr rfl))
  (ss_one (s_for (passes_of rfl) rfl (i_rng1 (by rfl) T.z_range (f_ix rfl (f_var (i := 0)) (f_var (i := 2)))) (g_name (i := 3) nd rfl (by first | exact .inl rfl | exact .inr rfl))
  (ss_cons (s_set (i := 4) nd rfl (by first | exact .inl rfl | exact .inr rfl) (f_len rfl (by rfl) T.z_len (fa_cons (f_fz (f_lc (own := [("length", 5)]) (sl := [5]) rfl nd (i_seq rfl (f_sl rfl (f_var (i := 0)) (fo_e (f_add rfl (f_var (i := 2)) f_int)) fo_no)) (blkOk_by (by kernel_rfl)) (fun _ _ _ _ _ => (g_name (i := 5) nd rfl (by first | exact .inl rfl | exact .inr rfl))) (fun _ _ _ _ _ => (ts_one (t_gt (f_var (i := 5)) (f_var (i := 3))))) (fun _ _ _ _ _ => (f_var (i := 5))) (by decide))) fa_nil)))
  (ss_one (s_set (i := 1) nd rfl (by first | exact .inl rfl | exact .inr rfl) (f_mul (f_var (i := 1)) (f_add rfl (f_sub (f_ix rfl (f_var (i := 0)) (f_var (i := 2))) (f_var (i := 3))) (f_var (i := 4))))))))))
  (ss_one (s_ret (f_var (i := 1))))))
def B__law_is_count : Sv := (gRet (eAndV (e1 (kIsi .int) (eVar 0)) (eAndV (eNotV (e1 (kIsi .bool) (eVar 0))) (e2 kEq (eVar 0) (eVar 1)))))
def F__law_is_count : Fg := runG 2 B__law_is_count
theorem ok__law_is_count (T : Facts K mg) : FnOk P w K mg base (L2.CX P w) 1 T.a__law_is_count T.fd__law_is_count ["told", "due"] (fnG (G0 T) 2 F__law_is_count) :=
  okG T.F__law_is_count sc__law_is_count fun cdv A outer s H E hr W tk => by
  have nd := sc__law_is_count.nd
  unfold B__law_is_count
  exact (ss_one (s_ret (f_andV (f_isi .int rfl (by rfl) T.z_isinstance (by rfl) T.z_int (by decide +kernel) (f_var (i := 0))) (f_andV (f_notV (f_isi .bool rfl (by rfl) T.z_isinstance (by rfl) T.z_bool (by decide +kernel) (f_var (i := 0)))) (f_one (f_eq (hr.mono (Nat.zero_le _)) rfl (f_var (i := 0)) (f_var (i := 1))))))))
def B_filling_count : Sv := (gSeq (gSet 1 (eDisp1T BAD (eVar 0) (eC (.int 1))))
  (gSeq (gFor (ir1 (eCall kSumA (eCons (eVar 0) eNil))) (aName 2)
  (gSeq (gSet 3 eDnewT)
  (gSeq (gFor (eSeq (eF (eListDT (eCons (eVar 1) eNil)))) (aName 4)
  (gFor (eSeq (eCallG 1 F__without_corner (eCons (eVar 4) eNil))) (aName 5)
  (gPutT BAD (eVar 3) (eVar 5) (e2 kAdd (eDget2T BAD (eVar 3) (eVar 5) (eC (.int 0))) (e2 (kDgetT BAD) (eVar 1) (eVar 4))))))
  (gSet 1 (eVar 3)))))
  (gRet (e2 (kDgetT BAD) (eVar 1) (eTup eNil)))))
def F_filling_count : Fg := runG 6 B_filling_count
theorem ok_filling_count (T : Facts K mg) : FnOk P w K mg base (L2.CX P w) 2 T.a_filling_count T.fd_filling_count ["shape"] (fnG (G0 T) 1 F_filling_count) :=
  okG T.F_filling_count sc_filling_count fun cdv A outer s H E hr W tk => by
  have nd := sc_filling_count.nd
  unfold B_filling_count
  exact (ss_cons (s_set (i := 1) nd rfl (by first | exact .inl rfl | exact .inr rfl) (f_disp1T (hbad T) (hr.mono (Nat.zero_le _)) (f_var (i := 0)) f_int))
  (ss_cons (s_for (passes_of rfl) rfl (i_rng1 (by rfl) T.z_range (f_sumA rfl rfl (by rfl) T.z_sum (fa_cons (f_var (i := 0)) fa_nil))) (g_name (i := 2) nd rfl (by first | exact .inl rfl | exact .inr rfl))
  (ss_cons (s_set (i := 3) nd rfl (by first | exact .inl rfl | exact .inr rfl) f_dnewT)
  (ss_cons (s_for (passes_of rfl) rfl (i_seq rfl (f_fz (f_listDT rfl (by rfl) T.z_list (fa_cons (f_var (i := 1)) fa_nil)))) (g_name (i := 4) nd rfl (by first | exact .inl rfl | exact .inr rfl))
  (ss_one (s_for (passes_of rfl) rfl (i_seq rfl (f_callG (ok__without_corner T) (hr.mono (by decide)) (by rfl) T.g__without_corner T.F__without_corner.kp T.b__without_corner tk (fa_cons (f_var (i := 4)) fa_nil))) (g_name (i := 5) nd rfl (by first | exact .inl rfl | exact .inr rfl))
  (ss_one (s_dputT (hbad T) (hr.mono (Nat.zero_le _)) (f_add rfl (f_dget2T (hbad T) (hr.mono (Nat.zero_le _)) (f_var (i := 3)) (f_var (i := 5)) f_int ⟨by rfl, by rfl, by rfl, by rfl⟩) (f_dgetT (hbad T) (hr.mono (Nat.zero_le _)) (f_var (i := 1)) (f_var (i := 4)))) (f_var (i := 3)) (f_var (i := 5)))))))
  (ss_one (s_set (i := 1) nd rfl (by first | exact .inl rfl | exact .inr rfl) (f_var (i := 3)))))))
  (ss_one (s_ret (f_dgetT (hbad T) (hr.mono (Nat.zero_le _)) (f_var (i := 1)) (f_tup fa_nil))))))
def B__law_number : Sv := (gSeq (gSet 2 (eCall kAbs (eCons (eCallG 2 F__law_cell (eCons (eVar 0) (eCons (eVar 1) eNil))) eNil)))
  (gSeq (gIf (bE (e2 kLt (eVar 2) (e2 (kI cPow fun i j => i ^ j.toNat) (eC (.int 10)) (eC (.int 18))))) (gSeq (gSet 2 (e2 kAdd (e2 kMul (e2 kAdd (eVar 2) (eC (.int 5))) (e2 kAdd (eVar 2) (eC (.int 48271)))) (e2 kMul (eC (.int 69621)) (eVar 1))))
  (gSet 2 (e2 kAdd (e2 kMul (eVar 2) (e2 kAdd (e2 (kI cMod Int.fmod) (eCall kInt (eCons (eVar 2) eNil)) (eC (.int 65537))) (eC (.int 11)))) (e2 (kI cDiv Int.fdiv) (eVar 2) (eC (.int 7)))))) gNx)
  (gRet (eVar 2))))
def F__law_number : Fg := runG 3 B__law_number
theorem ok__law_number (T : Facts K mg) : FnOk P w K mg base (L2.CX P w) 2 T.a__law_number T.fd__law_number ["script", "k"] (fnG (G0 T) 2 F__law_number) :=
  okG T.F__law_number sc__law_number fun cdv A outer s H E hr W tk => by
  have nd := sc__law_number.nd
  unfold B__law_number
  exact (ss_cons (s_set (i := 2) nd rfl (by first | exact .inl rfl | exact .inr rfl) (f_abs (by rfl) T.z_abs (fa_cons (f_callG (ok__law_cell T) (hr.mono (by decide)) (by rfl) T.g__law_cell T.F__law_cell.kp T.b__law_cell tk (fa_cons (f_var (i := 0)) (fa_cons (f_var (i := 1)) fa_nil))) fa_nil)))
  (ss_cons (s_if (t_lt (f_var (i := 2)) (f_pow f_int f_int)) (ss_cons (s_set (i := 2) nd rfl (by first | exact .inl rfl | exact .inr rfl) (f_add rfl (f_mul (f_add rfl (f_var (i := 2)) f_int) (f_add rfl (f_var (i := 2)) f_int)) (f_mul f_int (f_var (i := 1)))))
  (ss_one (s_set (i := 2) nd rfl (by first | exact .inl rfl | exact .inr rfl) (f_add rfl (f_mul (f_var (i := 2)) (f_add rfl (f_mod (f_intc (by rfl) T.z_int (fa_cons (f_var (i := 2)) fa_nil)) f_int) f_int)) (f_fdiv (f_var (i := 2)) f_int))))) ss_nil)
  (ss_one (s_ret (f_var (i := 2))))))
def B__law_same_shapes : Sv := (gSeq (gIf (bOr (bNot (bE (e1 (kIsi .lst) (eVar 0)))) (bE (e2 kNe (eCall kLen (eCons (eVar 0) eNil)) (eCall kLen (eCons (eVar 1) eNil))))) (gRet (eC (.bl false))) gNx)
  (gSeq (gFor (ir1 (eCall kLen (eCons (eVar 1) eNil))) (aName 2)
  (gSeq (gSet 3 (e2 kIx (eVar 0) (eVar 2)))
  (gSeq (gIf (bOr (bNot (bE (e1 (kIsi .tup) (eVar 3)))) (bE (e2 kNe (eCall kLen (eCons (eVar 3) eNil)) (eCall kLen (eCons (e2 kIx (eVar 1) (eVar 2)) eNil))))) (gRet (eC (.bl false))) gNx)
  (gFor (ir1 (eCall kLen (eCons (eVar 3) eNil))) (aName 4)
  (gIf (bNot (bE (eCallG 2 F__law_is_count (eCons (e2 kIx (eVar 3) (eVar 4)) (eCons (e2 kIx (e2 kIx (eVar 1) (eVar 2)) (eVar 4)) eNil))))) (gRet (eC (.bl false))) gNx)))))
  (gRet (eC (.bl true)))))
def F__law_same_shapes : Fg := runG 5 B__law_same_shapes
theorem ok__law_same_shapes (T : Facts K mg) : FnOk P w K mg base (L2.CX P w) 2 T.a__law_same_shapes T.fd__law_same_shapes ["told", "due"] (fnG (G0 T) 2 F__law_same_shapes) :=
  okG T.F__law_same_shapes sc__law_same_shapes fun cdv A outer s H E hr W tk => by
  have nd := sc__law_same_shapes.nd
  unfold B__law_same_shapes
  exact (ss_cons (s_if (w_pt (w_or (t_not (t_val (f_isi .lst rfl (by rfl) T.z_isinstance (by rfl) T.z_list (by decide +kernel) (f_var (i := 0))))) (w_or1 (t_ne (hr.mono (Nat.zero_le _)) rfl (f_len rfl (by rfl) T.z_len (fa_cons (f_var (i := 0)) fa_nil)) (f_len rfl (by rfl) T.z_len (fa_cons (f_var (i := 1)) fa_nil)))))) (ss_one (s_ret f_bl)) ss_nil)
  (ss_cons (s_for (passes_of rfl) rfl (i_rng1 (by rfl) T.z_range (f_len rfl (by rfl) T.z_len (fa_cons (f_var (i := 1)) fa_nil))) (g_name (i := 2) nd rfl (by first | exact .inl rfl | exact .inr rfl))
  (ss_cons (s_set (i := 3) nd rfl (by first | exact .inl rfl | exact .inr rfl) (f_ix rfl (f_var (i := 0)) (f_var (i := 2))))
  (ss_cons (s_if (w_pt (w_or (t_not (t_val (f_isi .tup rfl (by rfl) T.z_isinstance (by rfl) T.z_tuple (by decide +kernel) (f_var (i := 3))))) (w_or1 (t_ne (hr.mono (Nat.zero_le _)) rfl (f_len rfl (by rfl) T.z_len (fa_cons (f_var (i := 3)) fa_nil)) (f_len rfl (by rfl) T.z_len (fa_cons (f_ix rfl (f_var (i := 1)) (f_var (i := 2))) fa_nil)))))) (ss_one (s_ret f_bl)) ss_nil)
  (ss_one (s_for (passes_of rfl) rfl (i_rng1 (by rfl) T.z_range (f_len rfl (by rfl) T.z_len (fa_cons (f_var (i := 3)) fa_nil))) (g_name (i := 4) nd rfl (by first | exact .inl rfl | exact .inr rfl))
  (ss_one (s_if (t_not (t_val (f_callG (ok__law_is_count T) (hr.mono (by decide)) (by rfl) T.g__law_is_count T.F__law_is_count.kp T.b__law_is_count tk (fa_cons (f_ix rfl (f_var (i := 3)) (f_var (i := 4))) (fa_cons (f_ix rfl (f_ix rfl (f_var (i := 1)) (f_var (i := 2))) (f_var (i := 4))) fa_nil))))) (ss_one (s_ret f_bl)) ss_nil)))))))
  (ss_one (s_ret f_bl))))
def B_good_count : Sv := (gSeq (gEx (eCallG 1 F_check_size (eCons (eVar 0) eNil)))
  (gRet (eCall kSum (eCons (eF (eLc (eSeq (eCallH 2 (F_shapes_of 12) (eCons (eVar 1) (eCons (eVar 0) eNil)))) (aName 2) bYes (e2 (kI cPow fun i j => i ^ j.toNat) (eCallG 1 F_filling_count (eCons (eVar 2) eNil)) (eC (.int 2))) [2])) eNil))))
def F_good_count : Fg := runG 3 B_good_count
theorem ok_good_count (T : Facts K mg) : FnOk P w K mg base (L2.CX P w) 14 T.a_good_count T.fd_good_count ["size", "places"] (fnG (G0 T) 2 F_good_count) :=
  okG T.F_good_count sc_good_count fun cdv A outer s H E hr W tk => by
  have nd := sc_good_count.nd
  unfold B_good_count
  exact (ss_cons (s_expr (f_callG (ok_check_size T) (hr.mono (by decide)) (by rfl) T.g_check_size T.F_check_size.kp T.b_check_size tk (fa_cons (f_var (i := 0)) fa_nil)))
  (ss_one (s_ret (f_sum rfl rfl (by rfl) T.z_sum (fa_cons (f_fz (f_lc (own := [("shape", 2)]) (sl := [2]) rfl nd (i_seq rfl (f_callH (ok_shapes_of T 12) (hr.mono (by decide)) (by rfl) T.g_shapes_of T.F_shapes_of.kp T.b_shapes_of tk (fa_cons (f_var (i := 1)) (fa_cons (f_var (i := 0)) fa_nil)))) (blkOk_by (by kernel_rfl)) (fun _ _ _ _ _ => (g_name (i := 2) nd rfl (by first | exact .inl rfl | exact .inr rfl))) (fun _ _ _ _ _ => ts_nil) (fun _ _ _ _ _ => (f_pow (f_callG (ok_filling_count T) (hr.mono (by decide)) (by rfl) T.g_filling_count T.F_filling_count.kp T.b_filling_count takes0 (fa_cons (f_var (i := 2)) fa_nil)) f_int)) (by decide))) fa_nil)))))
def cat__law_refused_0 : Nat → Option Bool := fun k => match k with | 0 => some true | 1 => some true | 2 => some true | 3 => some true | 4 => some true | _ => none
def ret__law_refused_0 : Nat → Option Bool := fun k => match k with | 0 => some false | 1 => some true | 2 => some false | 3 => some false | 4 => some false | _ => none
def B__law_refused : Sv := (gSeq (gTryR 2 cat__law_refused_0 ret__law_refused_0 (gEx (eCallG 2 F_good_count (eCons (eVar 0) (eCons (eVar 1) eNil)))))
  (gRet (eC (.bl false))))
def F__law_refused : Fg := runG 3 B__law_refused
theorem cat__law_refused_0_ok (T : Facts K mg) : ∀ k b, cat__law_refused_0 k = some b → PySem.W.exmOne K (.ref ((G0 T).cl k)) (.ref T.c_TableError) = some b := fun k b h => by
  unfold cat__law_refused_0 at h
  split at h
  · cases h; exact exm_of2 T.x_TableError T.s_TableError_TableError
  · cases h; exact exm_of2 T.x_TableError T.s_WrongSize_TableError
  · cases h; exact exm_of2 T.x_TableError T.s_WrongKind_TableError
  · cases h; exact exm_of2 T.x_TableError T.s_InvalidPermutation_TableError
  · cases h; exact exm_of2 T.x_TableError T.s_TooLarge_TableError
  · cases h
theorem ok__law_refused (T : Facts K mg) : FnOk P w K mg base (L2.CX P w) 15 T.a__law_refused T.fd__law_refused ["size", "cells"] (fnG (G0 T) 2 F__law_refused) :=
  okG T.F__law_refused sc__law_refused fun cdv A outer s H E hr W tk => by
  have nd := sc__law_refused.nd
  unfold B__law_refused
  exact (ss_cons (s_tryR (i := 2) (catches := cat__law_refused_0) (ret := ret__law_refused_0) rfl rfl nd rfl rfl ⟨by rfl, by decide, Or.inl T.x_TableError.gP⟩ tk (cat__law_refused_0_ok T) (fun W pn xe tk hpp => (ss_one (s_expr (f_callG (ok_good_count T) (hr.mono (by decide)) (by rfl) T.g_good_count T.F_good_count.kp T.b_good_count tk (fa_cons (f_var (i := 0)) (fa_cons (f_var (i := 1)) fa_nil)))))) (fun k b a oe pn hr hz hf => by
    unfold ret__law_refused_0 at hr
    split at hr
    · cases hr; show PE _ _ (tP 2 a false); exact (p_and (b := false) rfl (p_isi (b := false) T.ec_TableError hz hf T.x_WrongSize (kit1_of T.x_WrongSize T.s_TableError_WrongSize T.s_TableError_TableError) (by rfl) T.z_isinstance (by rfl) rfl (by first | exact Or.inl rfl | exact Or.inr (Or.inl rfl) | exact Or.inr (Or.inr rfl))) (p_one (p_not (b := false) rfl (p_isiT (b := false) T.ec_TableError hz hf (cl_cons (by rfl) T.x_InvalidPermutation.gP (cl_cons (by rfl) T.x_TooLarge.gP (cl_cons (by rfl) T.x_WrongKind.gP cl_nil))) (by show 3 ≤ sizeLine; rw [sizeLine_eq]; omega) (.cons (.own _) (.cons (.own _) (.cons (.own _) .nil))) (kitAny_cons (b := false) (r := false) (kit1_of T.x_InvalidPermutation T.s_TableError_InvalidPermutation T.s_TableError_TableError) (fun _ => (kitAny_cons (b := false) (r := false) (kit1_of T.x_TooLarge T.s_TableError_TooLarge T.s_TableError_TableError) (fun _ => (kitAny_cons (b := false) (r := false) (kit1_of T.x_WrongKind T.s_TableError_WrongKind T.s_TableError_TableError) (fun _ => rfl) (by decide))) (by decide))) (by decide)) (by rfl) T.z_isinstance rfl (by first | exact Or.inl rfl | exact Or.inr (Or.inl rfl) | exact Or.inr (Or.inr rfl))))))
    · cases hr; show PE _ _ (tP 2 a true); exact (p_and (b := true) rfl (p_isi (b := true) T.ec_WrongSize hz hf T.x_WrongSize (kit1_of T.x_WrongSize T.s_WrongSize_WrongSize T.s_WrongSize_WrongSize) (by rfl) T.z_isinstance (by rfl) rfl (by first | exact Or.inl rfl | exact Or.inr (Or.inl rfl) | exact Or.inr (Or.inr rfl))) (p_one (p_not (b := false) rfl (p_isiT (b := false) T.ec_WrongSize hz hf (cl_cons (by rfl) T.x_InvalidPermutation.gP (cl_cons (by rfl) T.x_TooLarge.gP (cl_cons (by rfl) T.x_WrongKind.gP cl_nil))) (by show 3 ≤ sizeLine; rw [sizeLine_eq]; omega) (.cons (.own _) (.cons (.own _) (.cons (.own _) .nil))) (kitAny_cons (b := false) (r := false) (kit1_of T.x_InvalidPermutation T.s_WrongSize_InvalidPermutation T.s_WrongSize_WrongSize) (fun _ => (kitAny_cons (b := false) (r := false) (kit1_of T.x_TooLarge T.s_WrongSize_TooLarge T.s_WrongSize_WrongSize) (fun _ => (kitAny_cons (b := false) (r := false) (kit1_of T.x_WrongKind T.s_WrongSize_WrongKind T.s_WrongSize_WrongSize) (fun _ => rfl) (by decide))) (by decide))) (by decide)) (by rfl) T.z_isinstance rfl (by first | exact Or.inl rfl | exact Or.inr (Or.inl rfl) | exact Or.inr (Or.inr rfl))))))
    · cases hr; show PE _ _ (tP 2 a false); exact (p_and (b := false) rfl (p_isi (b := false) T.ec_WrongKind hz hf T.x_WrongSize (kit1_of T.x_WrongSize T.s_WrongKind_WrongSize T.s_WrongKind_WrongKind) (by rfl) T.z_isinstance (by rfl) rfl (by first | exact Or.inl rfl | exact Or.inr (Or.inl rfl) | exact Or.inr (Or.inr rfl))) (p_one (p_not (b := true) rfl (p_isiT (b := true) T.ec_WrongKind hz hf (cl_cons (by rfl) T.x_InvalidPermutation.gP (cl_cons (by rfl) T.x_TooLarge.gP (cl_cons (by rfl) T.x_WrongKind.gP cl_nil))) (by show 3 ≤ sizeLine; rw [sizeLine_eq]; omega) (.cons (.own _) (.cons (.own _) (.cons (.own _) .nil))) (kitAny_cons (b := false) (r := true) (kit1_of T.x_InvalidPermutation T.s_WrongKind_InvalidPermutation T.s_WrongKind_WrongKind) (fun _ => (kitAny_cons (b := false) (r := true) (kit1_of T.x_TooLarge T.s_WrongKind_TooLarge T.s_WrongKind_WrongKind) (fun _ => (kitAny_cons (b := true) (r := true) (kit1_of T.x_WrongKind T.s_WrongKind_WrongKind T.s_WrongKind_WrongKind) (fun _ => (by contradiction)) (by decide))) (by decide))) (by decide)) (by rfl) T.z_isinstance rfl (by first | exact Or.inl rfl | exact Or.inr (Or.inl rfl) | exact Or.inr (Or.inr rfl))))))
    · cases hr; show PE _ _ (tP 2 a false); exact (p_and (b := false) rfl (p_isi (b := false) T.ec_InvalidPermutation hz hf T.x_WrongSize (kit1_of T.x_WrongSize T.s_InvalidPermutation_WrongSize T.s_InvalidPermutation_InvalidPermutation) (by rfl) T.z_isinstance (by rfl) rfl (by first | exact Or.inl rfl | exact Or.inr (Or.inl rfl) | exact Or.inr (Or.inr rfl))) (p_one (p_not (b := true) rfl (p_isiT (b := true) T.ec_InvalidPermutation hz hf (cl_cons (by rfl) T.x_InvalidPermutation.gP (cl_cons (by rfl) T.x_TooLarge.gP (cl_cons (by rfl) T.x_WrongKind.gP cl_nil))) (by show 3 ≤ sizeLine; rw [sizeLine_eq]; omega) (.cons (.own _) (.cons (.own _) (.cons (.own _) .nil))) (kitAny_cons (b := true) (r := true) (kit1_of T.x_InvalidPermutation T.s_InvalidPermutation_InvalidPermutation T.s_InvalidPermutation_InvalidPermutation) (fun _ => (by contradiction)) (by decide)) (by rfl) T.z_isinstance rfl (by first | exact Or.inl rfl | exact Or.inr (Or.inl rfl) | exact Or.inr (Or.inr rfl))))))
    · cases hr; show PE _ _ (tP 2 a false); exact (p_and (b := false) rfl (p_isi (b := false) T.ec_TooLarge hz hf T.x_WrongSize (kit1_of T.x_WrongSize T.s_TooLarge_WrongSize T.s_TooLarge_TooLarge) (by rfl) T.z_isinstance (by rfl) rfl (by first | exact Or.inl rfl | exact Or.inr (Or.inl rfl) | exact Or.inr (Or.inr rfl))) (p_one (p_not (b := true) rfl (p_isiT (b := true) T.ec_TooLarge hz hf (cl_cons (by rfl) T.x_InvalidPermutation.gP (cl_cons (by rfl) T.x_TooLarge.gP (cl_cons (by rfl) T.x_WrongKind.gP cl_nil))) (by show 3 ≤ sizeLine; rw [sizeLine_eq]; omega) (.cons (.own _) (.cons (.own _) (.cons (.own _) .nil))) (kitAny_cons (b := false) (r := true) (kit1_of T.x_InvalidPermutation T.s_TooLarge_InvalidPermutation T.s_TooLarge_TooLarge) (fun _ => (kitAny_cons (b := true) (r := true) (kit1_of T.x_TooLarge T.s_TooLarge_TooLarge T.s_TooLarge_TooLarge) (fun _ => (by contradiction)) (by decide))) (by decide)) (by rfl) T.z_isinstance rfl (by first | exact Or.inl rfl | exact Or.inr (Or.inl rfl) | exact Or.inr (Or.inr rfl))))))
    · cases hr))
  (ss_one (s_ret f_bl)))
def R3_law : Sv := (gRet (eAndV (eCallG 2 F__law_refused (eCons (e2 (kI0 fun i j => i - j) (eC (.int 0)) (e2 (kI cMod Int.fmod) (eCall kInt (eCons (e2 (kI cDiv Int.fdiv) (eVar 5) (eC (.int 3))) eNil)) (eVar 6))) (eCons (eVar 2) eNil))) (eCallG 2 F__law_refused (eCons (e2 kAdd (eC (.int 4)) (e2 (kI cMod Int.fmod) (eCall kInt (eCons (e2 (kI cDiv Int.fdiv) (eVar 5) (eC (.int 7))) eNil)) (eVar 6))) (eCons (eVar 2) eNil)))))
def R2_law : Sv := (gSeq (gSet 11 (eC (.int 1)))
  (gSeq (gFor (ir1 (eVar 2)) (aName 12)
  (gSet 11 (e2 kMul (eVar 11) (e2 kAdd (eVar 12) (eC (.int 1))))))
  (gSeq (gSet 13 (eC (.int 0)))
  (gSeq (gSet 14 (eC (.int 0)))
  (gSeq (gFor (eSeq (eVar 8)) (aName 15)
  (gSeq (gSet 16 (eCallG 1 F_filling_count (eCons (eVar 15) eNil)))
  (gSeq (gIf (bOr (bNot (bE (eCallG 2 F__law_is_count (eCons (eVar 16) (eCons (e2 (kDgetT BAD) (eVar 7) (eVar 15)) eNil))))) (bE (e2 kNe (e2 kMul (eVar 16) (eCallG 1 F__law_hooks (eCons (eVar 15) eNil))) (eVar 11)))) (gRet (eC (.bl false))) gNx)
  (gSeq (gSet 13 (e2 kAdd (eVar 13) (e2 kMul (eVar 16) (eVar 16))))
  (gIf (bE (e2 kLe (eCall kMax (eCons (e2 kAdd (eF (eLst (eCons (eC (.int 0)) eNil))) (eF (eListOf (eCons (eVar 15) eNil)))) eNil)) (eVar 4))) (gSet 14 (e2 kAdd (eVar 14) (e2 kMul (e2 (kDgetT BAD) (eVar 7) (eVar 15)) (e2 (kDgetT BAD) (eVar 7) (eVar 15))))) gNx)))))
  (gSeq (gIf (bOr (bE (e2 kNe (eVar 13) (eVar 11))) (bNot (bE (eCallG 2 F__law_is_count (eCons (eCallG 2 F_good_count (eCons (eVar 4) (eCons (eVar 2) eNil))) (eCons (eVar 14) eNil)))))) (gRet (eC (.bl false))) gNx)
  (gSeq (gIf (bAnd (bE (e2 kLe (eVar 2) (eC (.int 5)))) (bE (e2 kNe (eVar 14) (eCall kLen (eCons (eF (eLc (eSeq (eCallG 1 F__law_listed (eCons (eVar 2) eNil))) (aName 17) (bE (e2 kLe (eCallG 1 F__law_longest (eCons (eVar 17) eNil)) (eVar 4))) (eVar 17) [17])) eNil))))) (gRet (eC (.bl false))) gNx)
  (gSeq (gIf (bOr (bAnd (bE (e2 kLe (eVar 2) (eVar 4))) (bE (e2 kNe (eVar 14) (eVar 11)))) (bAnd (bE (e2 kEq (eVar 2) (e2 kAdd (eVar 4) (eC (.int 1))))) (bE (e2 kNe (eVar 14) (e2 (kI0 fun i j => i - j) (eVar 11) (eC (.int 1))))))) (gRet (eC (.bl false))) gNx)
  R3_law))))))))
def M2_law : Sv := (gSeq (gSet 11 (eC (.int 1)))
  (gSeq (gFor (ir1 (eVar 2)) (aName 12)
  (gSet 11 (e2 kMul (eVar 11) (e2 kAdd (eVar 12) (eC (.int 1))))))
  (gSeq (gSet 13 (eC (.int 0)))
  (gSeq (gSet 14 (eC (.int 0)))
  (gSeq (gFor (eSeq (eVar 8)) (aName 15)
  (gSeq (gSet 16 (eCallG 1 F_filling_count (eCons (eVar 15) eNil)))
  (gSeq (gIf (bOr (bNot (bE (eCallG 2 F__law_is_count (eCons (eVar 16) (eCons (e2 (kDgetT BAD) (eVar 7) (eVar 15)) eNil))))) (bE (e2 kNe (e2 kMul (eVar 16) (eCallG 1 F__law_hooks (eCons (eVar 15) eNil))) (eVar 11)))) (gRet (eC (.bl false))) gNx)
  (gSeq (gSet 13 (e2 kAdd (eVar 13) (e2 kMul (eVar 16) (eVar 16))))
  (gIf (bE (e2 kLe (eCall kMax (eCons (e2 kAdd (eF (eLst (eCons (eC (.int 0)) eNil))) (eF (eListOf (eCons (eVar 15) eNil)))) eNil)) (eVar 4))) (gSet 14 (e2 kAdd (eVar 14) (e2 kMul (e2 (kDgetT BAD) (eVar 7) (eVar 15)) (e2 (kDgetT BAD) (eVar 7) (eVar 15))))) gNx)))))
  (gSeq (gIf (bOr (bE (e2 kNe (eVar 13) (eVar 11))) (bNot (bE (eCallG 2 F__law_is_count (eCons (eCallG 2 F_good_count (eCons (eVar 4) (eCons (eVar 2) eNil))) (eCons (eVar 14) eNil)))))) (gRet (eC (.bl false))) gNx)
  (gSeq (gIf (bAnd (bE (e2 kLe (eVar 2) (eC (.int 5)))) (bE (e2 kNe (eVar 14) (eCall kLen (eCons (eF (eLc (eSeq (eCallG 1 F__law_listed (eCons (eVar 2) eNil))) (aName 17) (bE (e2 kLe (eCallG 1 F__law_longest (eCons (eVar 17) eNil)) (eVar 4))) (eVar 17) [17])) eNil))))) (gRet (eC (.bl false))) gNx)
  (gIf (bOr (bAnd (bE (e2 kLe (eVar 2) (eVar 4))) (bE (e2 kNe (eVar 14) (eVar 11)))) (bAnd (bE (e2 kEq (eVar 2) (e2 kAdd (eVar 4) (eC (.int 1))))) (bE (e2 kNe (eVar 14) (e2 (kI0 fun i j => i - j) (eVar 11) (eC (.int 1))))))) (gRet (eC (.bl false))) gNx))))))))
theorem M2_law_eq : gSeq M2_law R3_law = R2_law := by
  unfold M2_law R2_law
  simp only [gSeq_assoc]
def R1_law : Sv := (gSeq (gSet 9 (eF (eLc (eSeq (eVar 8)) (aName 15) (bE (e2 kLe (eCall kMax (eCons (e2 kAdd (eF (eLst (eCons (eC (.int 0)) eNil))) (eF (eListOf (eCons (eVar 15) eNil)))) eNil)) (eVar 3))) (eVar 15) [15])))
  (gSeq (gSet 10 (eCallH 2 (F_shapes_of 12) (eCons (eVar 2) (eCons (eVar 3) eNil))))
  (gSeq (gIf (bNot (bE (eCallR 2 F__law_same_shapes (eCons (eVar 10) (eCons (eVar 9) eNil))))) (gRet (eC (.bl false))) gNx)
  (gSeq (gEx (eMt kAppend (eVar 10) (eCons (eTup (eCons (eC (.int 1)) eNil)) eNil)))
  (gSeq (gPut (eVar 10) (eC (.int 0)) (eTup (eCons (e2 kAdd (eVar 2) (eC (.int 1))) eNil)))
  (gSeq (gIf (bNot (bE (eCallR 2 F__law_same_shapes (eCons (eCallH 2 (F_shapes_of 12) (eCons (eVar 2) (eCons (eVar 3) eNil))) (eCons (eVar 9) eNil))))) (gRet (eC (.bl false))) gNx)
  R2_law))))))
def M1_law : Sv := (gSeq (gSet 9 (eF (eLc (eSeq (eVar 8)) (aName 15) (bE (e2 kLe (eCall kMax (eCons (e2 kAdd (eF (eLst (eCons (eC (.int 0)) eNil))) (eF (eListOf (eCons (eVar 15) eNil)))) eNil)) (eVar 3))) (eVar 15) [15])))
  (gSeq (gSet 10 (eCallH 2 (F_shapes_of 12) (eCons (eVar 2) (eCons (eVar 3) eNil))))
  (gSeq (gIf (bNot (bE (eCallR 2 F__law_same_shapes (eCons (eVar 10) (eCons (eVar 9) eNil))))) (gRet (eC (.bl false))) gNx)
  (gSeq (gEx (eMt kAppend (eVar 10) (eCons (eTup (eCons (eC (.int 1)) eNil)) eNil)))
  (gSeq (gPut (eVar 10) (eC (.int 0)) (eTup (eCons (e2 kAdd (eVar 2) (eC (.int 1))) eNil)))
  (gIf (bNot (bE (eCallR 2 F__law_same_shapes (eCons (eCallH 2 (F_shapes_of 12) (eCons (eVar 2) (eCons (eVar 3) eNil))) (eCons (eVar 9) eNil))))) (gRet (eC (.bl false))) gNx))))))
theorem M1_law_eq : gSeq M1_law R2_law = R1_law := by
  unfold M1_law R1_law
  simp only [gSeq_assoc]
def R0_law : Sv := (gSeq (gSet 7 (eCallH 1 F__law_grown (eCons (eVar 2) eNil)))
  (gSeq (gSet 8 (e2 kSortedDT (eVar 7) (eC (.bl true))))
  R1_law))
def M0_law : Sv := (gSeq (gSet 7 (eCallH 1 F__law_grown (eCons (eVar 2) eNil)))
  (gSet 8 (e2 kSortedDT (eVar 7) (eC (.bl true)))))
theorem M0_law_eq : gSeq M0_law R1_law = R0_law := by
  unfold M0_law R0_law
  simp only [gSeq_assoc]
def B_law : Sv := (gSeq (gSet 1 (e2 (kI cDiv Int.fdiv) (eCallG 2 F__law_number (eCons (eVar 0) (eCons (eC (.int 0)) eNil))) (eC (.int 11))))
  (gSeq (gSet 2 (e2 (kI cMod Int.fmod) (eCall kInt (eCons (eVar 1) eNil)) (eC (.int 10))))
  (gSeq (gSet 3 (e2 kAdd (eC (.int 1)) (e2 (kI cMod Int.fmod) (eCall kInt (eCons (e2 (kI cDiv Int.fdiv) (eVar 1) (eC (.int 10))) eNil)) (eC (.int 9)))))
  (gSeq (gSet 4 (e2 kAdd (eC (.int 1)) (e2 (kI cMod Int.fmod) (eCall kInt (eCons (e2 (kI cDiv Int.fdiv) (eVar 1) (eC (.int 90))) eNil)) (eC (.int 3)))))
  (gSeq (gSet 5 (eCallG 2 F__law_number (eCons (eVar 0) (eCons (eC (.int 1)) eNil))))
  (gSeq (gSet 6 (e2 kIx (eF (eLst (eCons (eC (.int 1)) (eCons (eC (.int 9)) (eCons (e2 (kI cPow fun i j => i ^ j.toNat) (eC (.int 10)) (eC (.int 30))) eNil))))) (e2 (kI cMod Int.fmod) (eCall kInt (eCons (eVar 5) eNil)) (eC (.int 3)))))
  R0_law))))))
def F_law : Fg := runG 18 B_law
theorem ok_law (T : Facts K mg) : FnOk P w K mg base (L2.CX P w) 16 T.a_law T.fd_law ["script"] (fnG (G0 T) 1 F_law) :=
  okG T.F_law sc_law fun cdv A outer s H E hr W tk => by
  have nd := sc_law.nd
  unfold B_law
  exact (ss_cons (s_set (i := 1) nd rfl (by first | exact .inl rfl | exact .inr rfl) (f_fdiv (f_callG (ok__law_number T) (hr.mono (by decide)) (by rfl) T.g__law_number T.F__law_number.kp T.b__law_number tk (fa_cons (f_var (i := 0)) (fa_cons f_int fa_nil))) f_int))
  (ss_cons (s_set (i := 2) nd rfl (by first | exact .inl rfl | exact .inr rfl) (f_mod (f_intc (by rfl) T.z_int (fa_cons (f_var (i := 1)) fa_nil)) f_int))
  (ss_cons (s_set (i := 3) nd rfl (by first | exact .inl rfl | exact .inr rfl) (f_add rfl f_int (f_mod (f_intc (by rfl) T.z_int (fa_cons (f_fdiv (f_var (i := 1)) f_int) fa_nil)) f_int)))
  (ss_cons (s_set (i := 4) nd rfl (by first | exact .inl rfl | exact .inr rfl) (f_add rfl f_int (f_mod (f_intc (by rfl) T.z_int (fa_cons (f_fdiv (f_var (i := 1)) f_int) fa_nil)) f_int)))
  (ss_cons (s_set (i := 5) nd rfl (by first | exact .inl rfl | exact .inr rfl) (f_callG (ok__law_number T) (hr.mono (by decide)) (by rfl) T.g__law_number T.F__law_number.kp T.b__law_number tk (fa_cons (f_var (i := 0)) (fa_cons f_int fa_nil))))
  (ss_cons (s_set (i := 6) nd rfl (by first | exact .inl rfl | exact .inr rfl) (f_ix rfl (f_fz (f_lst (fa_cons f_int (fa_cons f_int (fa_cons (f_pow f_int f_int) fa_nil))))) (f_mod (f_intc (by rfl) T.z_int (fa_cons (f_var (i := 5)) fa_nil)) f_int)))
  (by unfold R0_law; exact (ss_cons (s_set (i := 7) nd rfl (by first | exact .inl rfl | exact .inr rfl) (f_callH (ok__law_grown T) (hr.mono (by decide)) (by rfl) T.g__law_grown T.F__law_grown.kp T.b__law_grown tk (fa_cons (f_var (i := 2)) fa_nil)))
  (ss_cons (s_set (i := 8) nd rfl (by first | exact .inl rfl | exact .inr rfl) (f_sortedDT rfl (by rfl) T.z_sorted (f_var (i := 7)) f_bl))
  (by unfold R1_law; exact (ss_cons (s_setLcF (i := 9) (own := [("shape", 15)]) (sl := [15]) rfl nd rfl rfl (sw_true rfl rfl rfl (by decide +kernel)) (i_seq rfl (f_var (i := 8))) (blkOk_by (by kernel_rfl)) (fun _ _ _ _ _ => (g_name (i := 15) nd rfl (by first | exact .inl rfl | exact .inr rfl))) (fun _ _ _ _ _ => (ts_one (t_le (f_max rfl rfl (by rfl) T.z_max (fa_cons (f_add rfl (f_fz (f_lst (fa_cons f_int fa_nil))) (f_fz (f_listc rfl (by rfl) T.z_list (fa_cons (f_var (i := 15)) fa_nil)))) fa_nil)) (f_var (i := 3))))) (fun _ _ _ _ _ => (f_var (i := 15))) (by decide))
  (ss_cons (s_set (i := 10) nd rfl (by first | exact .inl rfl | exact .inr rfl) (f_callH (ok_shapes_of T 12) (hr.mono (by decide)) (by rfl) T.g_shapes_of T.F_shapes_of.kp T.b_shapes_of tk (fa_cons (f_var (i := 2)) (fa_cons (f_var (i := 3)) fa_nil))))
  (ss_cons (s_if (t_not (t_val (f_callR (ok__law_same_shapes T) (hr.mono (by decide)) (by rfl) T.g__law_same_shapes T.F__law_same_shapes.kp T.b__law_same_shapes tk (fa_cons (f_var (i := 10)) (fa_cons (f_var (i := 9)) fa_nil))))) (ss_one (s_ret f_bl)) ss_nil)
  (ss_cons (s_expr (f_append rfl (f_var (i := 10)) (fa_cons (f_tup (fa_cons f_int fa_nil)) fa_nil)))
  (ss_cons (s_put (f_tup (fa_cons (f_add rfl (f_var (i := 2)) f_int) fa_nil)) (f_var (i := 10)) f_int)
  (ss_cons (s_if (t_not (t_val (f_callR (ok__law_same_shapes T) (hr.mono (by decide)) (by rfl) T.g__law_same_shapes T.F__law_same_shapes.kp T.b__law_same_shapes tk (fa_cons (f_callH (ok_shapes_of T 12) (hr.mono (by decide)) (by rfl) T.g_shapes_of T.F_shapes_of.kp T.b_shapes_of tk (fa_cons (f_var (i := 2)) (fa_cons (f_var (i := 3)) fa_nil))) (fa_cons (f_var (i := 9)) fa_nil))))) (ss_one (s_ret f_bl)) ss_nil)
  (by unfold R2_law; exact (ss_cons (s_set (i := 11) nd rfl (by first | exact .inl rfl | exact .inr rfl) f_int)
  (ss_cons (s_for (passes_of rfl) rfl (i_rng1 (by rfl) T.z_range (f_var (i := 2))) (g_name (i := 12) nd rfl (by first | exact .inl rfl | exact .inr rfl))
  (ss_one (s_set (i := 11) nd rfl (by first | exact .inl rfl | exact .inr rfl) (f_mul (f_var (i := 11)) (f_add rfl (f_var (i := 12)) f_int)))))
  (ss_cons (s_set (i := 13) nd rfl (by first | exact .inl rfl | exact .inr rfl) f_int)
  (ss_cons (s_set (i := 14) nd rfl (by first | exact .inl rfl | exact .inr rfl) f_int)
  (ss_cons (s_for (passes_of rfl) rfl (i_seq rfl (f_var (i := 8))) (g_name (i := 15) nd rfl (by first | exact .inl rfl | exact .inr rfl))
  (ss_cons (s_set (i := 16) nd rfl (by first | exact .inl rfl | exact .inr rfl) (f_callG (ok_filling_count T) (hr.mono (by decide)) (by rfl) T.g_filling_count T.F_filling_count.kp T.b_filling_count tk (fa_cons (f_var (i := 15)) fa_nil)))
  (ss_cons (s_if (w_pt (w_or (t_not (t_val (f_callG (ok__law_is_count T) (hr.mono (by decide)) (by rfl) T.g__law_is_count T.F__law_is_count.kp T.b__law_is_count tk (fa_cons (f_var (i := 16)) (fa_cons (f_dgetT (hbad T) (hr.mono (Nat.zero_le _)) (f_var (i := 7)) (f_var (i := 15))) fa_nil))))) (w_or1 (t_ne (hr.mono (Nat.zero_le _)) rfl (f_mul (f_var (i := 16)) (f_callG (ok__law_hooks T) (hr.mono (by decide)) (by rfl) T.g__law_hooks T.F__law_hooks.kp T.b__law_hooks tk (fa_cons (f_var (i := 15)) fa_nil))) (f_var (i := 11)))))) (ss_one (s_ret f_bl)) ss_nil)
  (ss_cons (s_set (i := 13) nd rfl (by first | exact .inl rfl | exact .inr rfl) (f_add rfl (f_var (i := 13)) (f_mul (f_var (i := 16)) (f_var (i := 16)))))
  (ss_one (s_if (t_le (f_max rfl rfl (by rfl) T.z_max (fa_cons (f_add rfl (f_fz (f_lst (fa_cons f_int fa_nil))) (f_fz (f_listc rfl (by rfl) T.z_list (fa_cons (f_var (i := 15)) fa_nil)))) fa_nil)) (f_var (i := 4))) (ss_one (s_set (i := 14) nd rfl (by first | exact .inl rfl | exact .inr rfl) (f_add rfl (f_var (i := 14)) (f_mul (f_dgetT (hbad T) (hr.mono (Nat.zero_le _)) (f_var (i := 7)) (f_var (i := 15))) (f_dgetT (hbad T) (hr.mono (Nat.zero_le _)) (f_var (i := 7)) (f_var (i := 15))))))) ss_nil))))))
  (ss_cons (s_if (w_pt (w_or (t_ne (hr.mono (Nat.zero_le _)) rfl (f_var (i := 13)) (f_var (i := 11))) (w_or1 (t_not (t_val (f_callG (ok__law_is_count T) (hr.mono (by decide)) (by rfl) T.g__law_is_count T.F__law_is_count.kp T.b__law_is_count tk (fa_cons (f_callG (ok_good_count T) (hr.mono (by decide)) (by rfl) T.g_good_count T.F_good_count.kp T.b_good_count tk (fa_cons (f_var (i := 4)) (fa_cons (f_var (i := 2)) fa_nil))) (fa_cons (f_var (i := 14)) fa_nil)))))))) (ss_one (s_ret f_bl)) ss_nil)
  (ss_cons (s_if (w_pt (w_and (t_le (f_var (i := 2)) f_int) (w_and1 (t_ne (hr.mono (Nat.zero_le _)) rfl (f_var (i := 14)) (f_len rfl (by rfl) T.z_len (fa_cons (f_fz (f_lc (own := [("perm", 17)]) (sl := [17]) rfl nd (i_seq rfl (f_callG (ok__law_listed T) (hr.mono (by decide)) (by rfl) T.g__law_listed T.F__law_listed.kp T.b__law_listed tk (fa_cons (f_var (i := 2)) fa_nil))) (blkOk_by (by kernel_rfl)) (fun _ _ _ _ _ => (g_name (i := 17) nd rfl (by first | exact .inl rfl | exact .inr rfl))) (fun _ _ _ _ _ => (ts_one (t_le (f_callG (ok__law_longest T) (hr.mono (by decide)) (by rfl) T.g__law_longest T.F__law_longest.kp T.b__law_longest takes0 (fa_cons (f_var (i := 17)) fa_nil)) (f_var (i := 4))))) (fun _ _ _ _ _ => (f_var (i := 17))) (by decide))) fa_nil)))))) (ss_one (s_ret f_bl)) ss_nil)
  (ss_cons (s_if (w_pt (w_or (w_pt (w_and (t_le (f_var (i := 2)) (f_var (i := 4))) (w_and1 (t_ne (hr.mono (Nat.zero_le _)) rfl (f_var (i := 14)) (f_var (i := 11)))))) (w_or1 (w_pt (w_and (t_eq (hr.mono (Nat.zero_le _)) rfl (f_var (i := 2)) (f_add rfl (f_var (i := 4)) f_int)) (w_and1 (t_ne (hr.mono (Nat.zero_le _)) rfl (f_var (i := 14)) (f_sub (f_var (i := 11)) f_int)))))))) (ss_one (s_ret f_bl)) ss_nil)
  (by unfold R3_law; exact (ss_one (s_ret (f_andV (f_callG (ok__law_refused T) (hr.mono (by decide)) (by rfl) T.g__law_refused T.F__law_refused.kp T.b__law_refused tk (fa_cons (f_sub f_int (f_mod (f_intc (by rfl) T.z_int (fa_cons (f_fdiv (f_var (i := 5)) f_int) fa_nil)) (f_var (i := 6)))) (fa_cons (f_var (i := 2)) fa_nil))) (f_one (f_callG (ok__law_refused T) (hr.mono (by decide)) (by rfl) T.g__law_refused T.F__law_refused.kp T.b__law_refused tk (fa_cons (f_add rfl f_int (f_mod (f_intc (by rfl) T.z_int (fa_cons (f_fdiv (f_var (i := 5)) f_int) fa_nil)) (f_var (i := 6)))) (fa_cons (f_var (i := 2)) fa_nil)))))))))))))))))))))))))))))))))
end
noncomputable def X_check_size : Sv := (xIf (xB (xE2 (kIn true) (xVar 0) (eC (.tup [(.int 1), (.int 2), (.int 3)])))) (gRaise 1) gNx)
theorem X_check_size_eq : X_check_size = B_check_size := by
  unfold X_check_size B_check_size
  simp only [xAddS_eq, xAnd_eq, xB_eq, xCallG_eq, xCallH_eq, xCall_eq, xCons_eq, xE1_eq, xE2_eq, xEq_eq, xEx_eq, xFor_eq, xGe_eq, xGt_eq, xIf_eq, xIx_eq, xLc_eq, xLe_eq, xLen_eq, xLt_eq, xMaxD_eq, xMax_eq, xName_eq, xNe_eq, xNot_eq, xOr_eq, xPut_eq, xRet_eq, xSeq_eq, xSet_eq, xSum_eq, xT_eq, xTupC_eq, xVar_eq, xr1_eq, xrunG_eq, xrunH_eq, xAppM_eq]
noncomputable def Y_check_size : Fg := xrunG 1 X_check_size
theorem Y_check_size_eq : Y_check_size = F_check_size := by
  unfold Y_check_size F_check_size
  simp only [X_check_size_eq, xAddS_eq, xAnd_eq, xB_eq, xCallG_eq, xCallH_eq, xCall_eq, xCons_eq, xE1_eq, xE2_eq, xEq_eq, xEx_eq, xFor_eq, xGe_eq, xGt_eq, xIf_eq, xIx_eq, xLc_eq, xLe_eq, xLen_eq, xLt_eq, xMaxD_eq, xMax_eq, xName_eq, xNe_eq, xNot_eq, xOr_eq, xPut_eq, xRet_eq, xSeq_eq, xSet_eq, xSum_eq, xT_eq, xTupC_eq, xVar_eq, xr1_eq, xrunG_eq, xrunH_eq, xAppM_eq]
noncomputable def X_shapes_of : Fh → Sv := fun FF => (xSeq (xIf (xB (xE2 xEq (xVar 0) (eC (.int 0)))) (xRet (xT (eLst (xCons (eTup eNil) eNil)))) gNx)
  (xSeq (xSet 2 (xT (eLst eNil)))
  (xSeq (xFor (ir3 (xCall kMin (xCons (xVar 0) (xCons (xVar 1) eNil))) (eC (.int 0)) (xE1 kNeg (eC (.int 1)))) (xName 3)
  (xFor (eSeq (xCallH 2 FF (xCons (xE2 (kI0 fun i j => i - j) (xVar 0) (xVar 3)) (xCons (xVar 3) eNil)))) (xName 4)
  (xEx (xAppM (xVar 2) (xCons (xE2 xAddS (eTup (xCons (xVar 3) eNil)) (xVar 4)) eNil)))))
  (xRet (xVar 2)))))
theorem X_shapes_of_eq : X_shapes_of = B_shapes_of := by
  unfold X_shapes_of B_shapes_of
  simp only [xAddS_eq, xAnd_eq, xB_eq, xCallG_eq, xCallH_eq, xCall_eq, xCons_eq, xE1_eq, xE2_eq, xEq_eq, xEx_eq, xFor_eq, xGe_eq, xGt_eq, xIf_eq, xIx_eq, xLc_eq, xLe_eq, xLen_eq, xLt_eq, xMaxD_eq, xMax_eq, xName_eq, xNe_eq, xNot_eq, xOr_eq, xPut_eq, xRet_eq, xSeq_eq, xSet_eq, xSum_eq, xT_eq, xTupC_eq, xVar_eq, xr1_eq, xrunG_eq, xrunH_eq, xAppM_eq]
noncomputable def Y_shapes_of : Nat → Fh := fun n => Nat.rec (fun _ _ => .no) (fun _ ih => xrunH 5 (X_shapes_of ih)) n
theorem Y_shapes_of_eq : Y_shapes_of = F_shapes_of := by
  funext n
  induction n with
  | zero => rfl
  | succ n ih =>
    show xrunH 5 (X_shapes_of (Y_shapes_of n)) = runH 5 (B_shapes_of (F_shapes_of n))
    rw [ih, xrunH_eq, X_shapes_of_eq]
noncomputable def X__without_corner : Sv := (xSeq (xSet 1 (xT (eLst eNil)))
  (xSeq (xFor (ien (xCons (xVar 0) eNil)) (aTup (aCons (xName 2) (aCons (xName 3) aNil)))
  (xSeq (xSet 4 (eSl (xVar 0) (oE (xE2 xAddS (xVar 2) (eC (.int 1)))) oNo))
  (xIf (xAnd (xB (xE2 xEq (xVar 3) (eC (.int 1)))) (xNot (bTru (xVar 4)))) (xEx (xAppM (xVar 1) (xCons (eSl (xVar 0) oNo (oE (xVar 2))) eNil))) (xIf (xAnd (xB (xE2 xGt (xVar 3) (eC (.int 1)))) (xOr (xNot (bTru (xVar 4))) (xB (xE2 xLt (xE2 xIx (xVar 4) (eC (.int 0))) (xVar 3))))) (xEx (xAppM (xVar 1) (xCons (xE2 xAddS (xE2 xAddS (eSl (xVar 0) oNo (oE (xVar 2))) (eTup (xCons (xE2 (kI0 fun i j => i - j) (xVar 3) (eC (.int 1))) eNil))) (xVar 4)) eNil))) gNx))))
  (xRet (xVar 1))))
theorem X__without_corner_eq : X__without_corner = B__without_corner := by
  unfold X__without_corner B__without_corner
  simp only [xAddS_eq, xAnd_eq, xB_eq, xCallG_eq, xCallH_eq, xCall_eq, xCons_eq, xE1_eq, xE2_eq, xEq_eq, xEx_eq, xFor_eq, xGe_eq, xGt_eq, xIf_eq, xIx_eq, xLc_eq, xLe_eq, xLen_eq, xLt_eq, xMaxD_eq, xMax_eq, xName_eq, xNe_eq, xNot_eq, xOr_eq, xPut_eq, xRet_eq, xSeq_eq, xSet_eq, xSum_eq, xT_eq, xTupC_eq, xVar_eq, xr1_eq, xrunG_eq, xrunH_eq, xAppM_eq]
noncomputable def Y__without_corner : Fg := xrunG 5 X__without_corner
theorem Y__without_corner_eq : Y__without_corner = F__without_corner := by
  unfold Y__without_corner F__without_corner
  simp only [X__without_corner_eq, xAddS_eq, xAnd_eq, xB_eq, xCallG_eq, xCallH_eq, xCall_eq, xCons_eq, xE1_eq, xE2_eq, xEq_eq, xEx_eq, xFor_eq, xGe_eq, xGt_eq, xIf_eq, xIx_eq, xLc_eq, xLe_eq, xLen_eq, xLt_eq, xMaxD_eq, xMax_eq, xName_eq, xNe_eq, xNot_eq, xOr_eq, xPut_eq, xRet_eq, xSeq_eq, xSet_eq, xSum_eq, xT_eq, xTupC_eq, xVar_eq, xr1_eq, xrunG_eq, xrunH_eq, xAppM_eq]
noncomputable def X__law_cell : Sv := (xSeq (xIf (xB (xE2 xLt (xVar 1) (xCall xLen (xCons (xVar 0) eNil)))) (xRet (xE2 xIx (xVar 0) (xVar 1))) gNx)
  (xRet (xE2 xAddS (xE2 xAddS (xE2 kMul (eC (.int 17)) (xVar 1)) (xE2 kMul (eC (.int 3)) (xCall xLen (xCons (xVar 0) eNil)))) (eC (.int 1)))))
theorem X__law_cell_eq : X__law_cell = B__law_cell := by
  unfold X__law_cell B__law_cell
  simp only [xAddS_eq, xAnd_eq, xB_eq, xCallG_eq, xCallH_eq, xCall_eq, xCons_eq, xE1_eq, xE2_eq, xEq_eq, xEx_eq, xFor_eq, xGe_eq, xGt_eq, xIf_eq, xIx_eq, xLc_eq, xLe_eq, xLen_eq, xLt_eq, xMaxD_eq, xMax_eq, xName_eq, xNe_eq, xNot_eq, xOr_eq, xPut_eq, xRet_eq, xSeq_eq, xSet_eq, xSum_eq, xT_eq, xTupC_eq, xVar_eq, xr1_eq, xrunG_eq, xrunH_eq, xAppM_eq]
noncomputable def Y__law_cell : Fg := xrunG 2 X__law_cell
theorem Y__law_cell_eq : Y__law_cell = F__law_cell := by
  unfold Y__law_cell F__law_cell
  simp only [X__law_cell_eq, xAddS_eq, xAnd_eq, xB_eq, xCallG_eq, xCallH_eq, xCall_eq, xCons_eq, xE1_eq, xE2_eq, xEq_eq, xEx_eq, xFor_eq, xGe_eq, xGt_eq, xIf_eq, xIx_eq, xLc_eq, xLe_eq, xLen_eq, xLt_eq, xMaxD_eq, xMax_eq, xName_eq, xNe_eq, xNot_eq, xOr_eq, xPut_eq, xRet_eq, xSeq_eq, xSet_eq, xSum_eq, xT_eq, xTupC_eq, xVar_eq, xr1_eq, xrunG_eq, xrunH_eq, xAppM_eq]
noncomputable def X__law_longest : Sv := (xSeq (xSet 1 (xT (eLst (xCons (eC (.int 0)) eNil))))
  (xSeq (xFor (xr1 (xCall xLen (xCons (xVar 0) eNil))) (xName 2)
  (xEx (xAppM (xVar 1) (xCons (xE2 xAddS (eC (.int 1)) (xCall xMax (xCons (xE2 xAddS (eF (eLst (xCons (eC (.int 0)) eNil))) (eF (xLc (xr1 (xVar 2)) (xName 3) (xB (xE2 xGt (xE2 xIx (xVar 0) (xVar 3)) (xE2 xIx (xVar 0) (xVar 2)))) (xE2 xIx (xVar 1) (xE2 xAddS (xVar 3) (eC (.int 1)))) [3]))) eNil))) eNil))))
  (xRet (xCall xMax (xCons (xVar 1) eNil)))))
theorem X__law_longest_eq : X__law_longest = B__law_longest := by
  unfold X__law_longest B__law_longest
  simp only [xAddS_eq, xAnd_eq, xB_eq, xCallG_eq, xCallH_eq, xCall_eq, xCons_eq, xE1_eq, xE2_eq, xEq_eq, xEx_eq, xFor_eq, xGe_eq, xGt_eq, xIf_eq, xIx_eq, xLc_eq, xLe_eq, xLen_eq, xLt_eq, xMaxD_eq, xMax_eq, xName_eq, xNe_eq, xNot_eq, xOr_eq, xPut_eq, xRet_eq, xSeq_eq, xSet_eq, xSum_eq, xT_eq, xTupC_eq, xVar_eq, xr1_eq, xrunG_eq, xrunH_eq, xAppM_eq]
noncomputable def Y__law_longest : Fg := xrunG 4 X__law_longest
theorem Y__law_longest_eq : Y__law_longest = F__law_longest := by
  unfold Y__law_longest F__law_longest
  simp only [X__law_longest_eq, xAddS_eq, xAnd_eq, xB_eq, xCallG_eq, xCallH_eq, xCall_eq, xCons_eq, xE1_eq, xE2_eq, xEq_eq, xEx_eq, xFor_eq, xGe_eq, xGt_eq, xIf_eq, xIx_eq, xLc_eq, xLe_eq, xLen_eq, xLt_eq, xMaxD_eq, xMax_eq, xName_eq, xNe_eq, xNot_eq, xOr_eq, xPut_eq, xRet_eq, xSeq_eq, xSet_eq, xSum_eq, xT_eq, xTupC_eq, xVar_eq, xr1_eq, xrunG_eq, xrunH_eq, xAppM_eq]
noncomputable def X__law_listed : Sv := (xSeq (xSet 1 (eF (eLst (xCons (eF (eLst eNil)) eNil))))
  (xSeq (xFor (xr1 (xVar 0)) (xName 2)
  (xSeq (xSet 3 (xT (eLst eNil)))
  (xSeq (xFor (eSeq (eF (eListOf (xCons (xVar 1) eNil)))) (xName 4)
  (xFor (ir2 (eC (.int 1)) (xE2 xAddS (xVar 0) (eC (.int 1)))) (xName 5)
  (xIf (xB (xE2 (kIn true) (xVar 5) (xVar 4))) (xEx (xAppM (xVar 3) (xCons (xE2 xAddS (xVar 4) (eF (eLst (xCons (xVar 5) eNil)))) eNil))) gNx)))
  (xSet 1 (eF (eListOf (xCons (xVar 3) eNil)))))))
  (xRet (eF (xLc (eSeq (xVar 1)) (xName 4) bYes (xCall xTupC (xCons (xVar 4) eNil)) [4])))))
theorem X__law_listed_eq : X__law_listed = B__law_listed := by
  unfold X__law_listed B__law_listed
  simp only [xAddS_eq, xAnd_eq, xB_eq, xCallG_eq, xCallH_eq, xCall_eq, xCons_eq, xE1_eq, xE2_eq, xEq_eq, xEx_eq, xFor_eq, xGe_eq, xGt_eq, xIf_eq, xIx_eq, xLc_eq, xLe_eq, xLen_eq, xLt_eq, xMaxD_eq, xMax_eq, xName_eq, xNe_eq, xNot_eq, xOr_eq, xPut_eq, xRet_eq, xSeq_eq, xSet_eq, xSum_eq, xT_eq, xTupC_eq, xVar_eq, xr1_eq, xrunG_eq, xrunH_eq, xAppM_eq]
noncomputable def Y__law_listed : Fg := xrunG 6 X__law_listed
theorem Y__law_listed_eq : Y__law_listed = F__law_listed := by
  unfold Y__law_listed F__law_listed
  simp only [X__law_listed_eq, xAddS_eq, xAnd_eq, xB_eq, xCallG_eq, xCallH_eq, xCall_eq, xCons_eq, xE1_eq, xE2_eq, xEq_eq, xEx_eq, xFor_eq, xGe_eq, xGt_eq, xIf_eq, xIx_eq, xLc_eq, xLe_eq, xLen_eq, xLt_eq, xMaxD_eq, xMax_eq, xName_eq, xNe_eq, xNot_eq, xOr_eq, xPut_eq, xRet_eq, xSeq_eq, xSet_eq, xSum_eq, xT_eq, xTupC_eq, xVar_eq, xr1_eq, xrunG_eq, xrunH_eq, xAppM_eq]
noncomputable def X__law_grown : Sv := (xSeq (xSet 1 (eDisp1T BAD (eTup eNil) (eC (.int 1))))
  (xSeq (xFor (xr1 (xVar 0)) (xName 2)
  (xSeq (xSet 3 eDnewT)
  (xSeq (xFor (eSeq (eF (eListDT (xCons (xVar 1) eNil)))) (xName 4)
  (xFor (xr1 (xE2 xAddS (xCall xLen (xCons (xVar 4) eNil)) (eC (.int 1)))) (xName 5)
  (xSeq (xSet 6 (xT (eN2 nCat (eF (eListOf (xCons (xVar 4) eNil))) (eF (eLst (xCons (eC (.int 0)) eNil))))))
  (xSeq (xPut (xVar 6) (xVar 5) (xE2 xAddS (xE2 xIx (xVar 6) (xVar 5)) (eC (.int 1))))
  (xSeq (xIf (xAnd (xB (xE2 xGt (xVar 5) (eC (.int 0)))) (xB (xE2 xGt (xE2 xIx (xVar 6) (xVar 5)) (xE2 xIx (xVar 6) (xE2 (kI0 fun i j => i - j) (xVar 5) (eC (.int 1))))))) gCt gNx)
  (xSeq (xSet 7 (xCall xTupC (xCons (eF (xLc (eSeq (xVar 6)) (xName 8) (xB (xE2 xGt (xVar 8) (eC (.int 0)))) (xVar 8) [8])) eNil)))
  (gPutT BAD (xVar 3) (xVar 7) (xE2 xAddS (eDget2T BAD (xVar 3) (xVar 7) (eC (.int 0))) (xE2 (kDgetT BAD) (xVar 1) (xVar 4))))))))))
  (xSet 1 (xVar 3)))))
  (xRet (xVar 1))))
theorem X__law_grown_eq : X__law_grown = B__law_grown := by
  unfold X__law_grown B__law_grown
  simp only [xAddS_eq, xAnd_eq, xB_eq, xCallG_eq, xCallH_eq, xCall_eq, xCons_eq, xE1_eq, xE2_eq, xEq_eq, xEx_eq, xFor_eq, xGe_eq, xGt_eq, xIf_eq, xIx_eq, xLc_eq, xLe_eq, xLen_eq, xLt_eq, xMaxD_eq, xMax_eq, xName_eq, xNe_eq, xNot_eq, xOr_eq, xPut_eq, xRet_eq, xSeq_eq, xSet_eq, xSum_eq, xT_eq, xTupC_eq, xVar_eq, xr1_eq, xrunG_eq, xrunH_eq, xAppM_eq]
noncomputable def Y__law_grown : Fh := xrunH 9 X__law_grown
theorem Y__law_grown_eq : Y__law_grown = F__law_grown := by
  unfold Y__law_grown F__law_grown
  simp only [X__law_grown_eq, xAddS_eq, xAnd_eq, xB_eq, xCallG_eq, xCallH_eq, xCall_eq, xCons_eq, xE1_eq, xE2_eq, xEq_eq, xEx_eq, xFor_eq, xGe_eq, xGt_eq, xIf_eq, xIx_eq, xLc_eq, xLe_eq, xLen_eq, xLt_eq, xMaxD_eq, xMax_eq, xName_eq, xNe_eq, xNot_eq, xOr_eq, xPut_eq, xRet_eq, xSeq_eq, xSet_eq, xSum_eq, xT_eq, xTupC_eq, xVar_eq, xr1_eq, xrunG_eq, xrunH_eq, xAppM_eq]
noncomputable def X__law_hooks : Sv := (xSeq (xSet 1 (eC (.int 1)))
  (xSeq (xFor (xr1 (xCall xLen (xCons (xVar 0) eNil))) (xName 2)
  (xFor (xr1 (xE2 xIx (xVar 0) (xVar 2))) (xName 3)
  (xSeq (xSet 4 (xCall xLen (xCons (eF (xLc (eSeq (eSl (xVar 0) (oE (xE2 xAddS (xVar 2) (eC (.int 1)))) oNo)) (xName 5) (xB (xE2 xGt (xVar 5) (xVar 3))) (xVar 5) [5])) eNil)))
  (xSet 1 (xE2 kMul (xVar 1) (xE2 xAddS (xE2 (kI0 fun i j => i - j) (xE2 xIx (xVar 0) (xVar 2)) (xVar 3)) (xVar 4)))))))
  (xRet (xVar 1))))
theorem X__law_hooks_eq : X__law_hooks = B__law_hooks := by
  unfold X__law_hooks B__law_hooks
  simp only [xAddS_eq, xAnd_eq, xB_eq, xCallG_eq, xCallH_eq, xCall_eq, xCons_eq, xE1_eq, xE2_eq, xEq_eq, xEx_eq, xFor_eq, xGe_eq, xGt_eq, xIf_eq, xIx_eq, xLc_eq, xLe_eq, xLen_eq, xLt_eq, xMaxD_eq, xMax_eq, xName_eq, xNe_eq, xNot_eq, xOr_eq, xPut_eq, xRet_eq, xSeq_eq, xSet_eq, xSum_eq, xT_eq, xTupC_eq, xVar_eq, xr1_eq, xrunG_eq, xrunH_eq, xAppM_eq]
noncomputable def Y__law_hooks : Fg := xrunG 6 X__law_hooks
theorem Y__law_hooks_eq : Y__law_hooks = F__law_hooks := by
  unfold Y__law_hooks F__law_hooks
  simp only [X__law_hooks_eq, xAddS_eq, xAnd_eq, xB_eq, xCallG_eq, xCallH_eq, xCall_eq, xCons_eq, xE1_eq, xE2_eq, xEq_eq, xEx_eq, xFor_eq, xGe_eq, xGt_eq, xIf_eq, xIx_eq, xLc_eq, xLe_eq, xLen_eq, xLt_eq, xMaxD_eq, xMax_eq, xName_eq, xNe_eq, xNot_eq, xOr_eq, xPut_eq, xRet_eq, xSeq_eq, xSet_eq, xSum_eq, xT_eq, xTupC_eq, xVar_eq, xr1_eq, xrunG_eq, xrunH_eq, xAppM_eq]
noncomputable def X__law_is_count : Sv := (xRet (eAndV (xE1 (kIsi .int) (xVar 0)) (eAndV (eNotV (xE1 (kIsi .bool) (xVar 0))) (xE2 xEq (xVar 0) (xVar 1)))))
theorem X__law_is_count_eq : X__law_is_count = B__law_is_count := by
  unfold X__law_is_count B__law_is_count
  simp only [xAddS_eq, xAnd_eq, xB_eq, xCallG_eq, xCallH_eq, xCall_eq, xCons_eq, xE1_eq, xE2_eq, xEq_eq, xEx_eq, xFor_eq, xGe_eq, xGt_eq, xIf_eq, xIx_eq, xLc_eq, xLe_eq, xLen_eq, xLt_eq, xMaxD_eq, xMax_eq, xName_eq, xNe_eq, xNot_eq, xOr_eq, xPut_eq, xRet_eq, xSeq_eq, xSet_eq, xSum_eq, xT_eq, xTupC_eq, xVar_eq, xr1_eq, xrunG_eq, xrunH_eq, xAppM_eq]
noncomputable def Y__law_is_count : Fg := xrunG 2 X__law_is_count
theorem Y__law_is_count_eq : Y__law_is_count = F__law_is_count := by
  unfold Y__law_is_count F__law_is_count
  simp only [X__law_is_count_eq, xAddS_eq, xAnd_eq, xB_eq, xCallG_eq, xCallH_eq, xCall_eq, xCons_eq, xE1_eq, xE2_eq, xEq_eq, xEx_eq, xFor_eq, xGe_eq, xGt_eq, xIf_eq, xIx_eq, xLc_eq, xLe_eq, xLen_eq, xLt_eq, xMaxD_eq, xMax_eq, xName_eq, xNe_eq, xNot_eq, xOr_eq, xPut_eq, xRet_eq, xSeq_eq, xSet_eq, xSum_eq, xT_eq, xTupC_eq, xVar_eq, xr1_eq, xrunG_eq, xrunH_eq, xAppM_eq]
noncomputable def X_filling_count : Sv := (xSeq (xSet 1 (eDisp1T BAD (xVar 0) (eC (.int 1))))
  (xSeq (xFor (xr1 (xCall kSumA (xCons (xVar 0) eNil))) (xName 2)
  (xSeq (xSet 3 eDnewT)
  (xSeq (xFor (eSeq (eF (eListDT (xCons (xVar 1) eNil)))) (xName 4)
  (xFor (eSeq (xCallG 1 Y__without_corner (xCons (xVar 4) eNil))) (xName 5)
  (gPutT BAD (xVar 3) (xVar 5) (xE2 xAddS (eDget2T BAD (xVar 3) (xVar 5) (eC (.int 0))) (xE2 (kDgetT BAD) (xVar 1) (xVar 4))))))
  (xSet 1 (xVar 3)))))
  (xRet (xE2 (kDgetT BAD) (xVar 1) (eTup eNil)))))
theorem X_filling_count_eq : X_filling_count = B_filling_count := by
  unfold X_filling_count B_filling_count
  simp only [Y__without_corner_eq, xAddS_eq, xAnd_eq, xB_eq, xCallG_eq, xCallH_eq, xCall_eq, xCons_eq, xE1_eq, xE2_eq, xEq_eq, xEx_eq, xFor_eq, xGe_eq, xGt_eq, xIf_eq, xIx_eq, xLc_eq, xLe_eq, xLen_eq, xLt_eq, xMaxD_eq, xMax_eq, xName_eq, xNe_eq, xNot_eq, xOr_eq, xPut_eq, xRet_eq, xSeq_eq, xSet_eq, xSum_eq, xT_eq, xTupC_eq, xVar_eq, xr1_eq, xrunG_eq, xrunH_eq, xAppM_eq]
noncomputable def Y_filling_count : Fg := xrunG 6 X_filling_count
theorem Y_filling_count_eq : Y_filling_count = F_filling_count := by
  unfold Y_filling_count F_filling_count
  simp only [X_filling_count_eq, xAddS_eq, xAnd_eq, xB_eq, xCallG_eq, xCallH_eq, xCall_eq, xCons_eq, xE1_eq, xE2_eq, xEq_eq, xEx_eq, xFor_eq, xGe_eq, xGt_eq, xIf_eq, xIx_eq, xLc_eq, xLe_eq, xLen_eq, xLt_eq, xMaxD_eq, xMax_eq, xName_eq, xNe_eq, xNot_eq, xOr_eq, xPut_eq, xRet_eq, xSeq_eq, xSet_eq, xSum_eq, xT_eq, xTupC_eq, xVar_eq, xr1_eq, xrunG_eq, xrunH_eq, xAppM_eq]
noncomputable def X__law_number : Sv := (xSeq (xSet 2 (xCall kAbs (xCons (xCallG 2 Y__law_cell (xCons (xVar 0) (xCons (xVar 1) eNil))) eNil)))
  (xSeq (xIf (xB (xE2 xLt (xVar 2) (xE2 (kI cPow fun i j => i ^ j.toNat) (eC (.int 10)) (eC (.int 18))))) (xSeq (xSet 2 (xE2 xAddS (xE2 kMul (xE2 xAddS (xVar 2) (eC (.int 5))) (xE2 xAddS (xVar 2) (eC (.int 48271)))) (xE2 kMul (eC (.int 69621)) (xVar 1))))
  (xSet 2 (xE2 xAddS (xE2 kMul (xVar 2) (xE2 xAddS (xE2 (kI cMod Int.fmod) (xCall kInt (xCons (xVar 2) eNil)) (eC (.int 65537))) (eC (.int 11)))) (xE2 (kI cDiv Int.fdiv) (xVar 2) (eC (.int 7)))))) gNx)
  (xRet (xVar 2))))
theorem X__law_number_eq : X__law_number = B__law_number := by
  unfold X__law_number B__law_number
  simp only [Y__law_cell_eq, xAddS_eq, xAnd_eq, xB_eq, xCallG_eq, xCallH_eq, xCall_eq, xCons_eq, xE1_eq, xE2_eq, xEq_eq, xEx_eq, xFor_eq, xGe_eq, xGt_eq, xIf_eq, xIx_eq, xLc_eq, xLe_eq, xLen_eq, xLt_eq, xMaxD_eq, xMax_eq, xName_eq, xNe_eq, xNot_eq, xOr_eq, xPut_eq, xRet_eq, xSeq_eq, xSet_eq, xSum_eq, xT_eq, xTupC_eq, xVar_eq, xr1_eq, xrunG_eq, xrunH_eq, xAppM_eq]
noncomputable def Y__law_number : Fg := xrunG 3 X__law_number
theorem Y__law_number_eq : Y__law_number = F__law_number := by
  unfold Y__law_number F__law_number
  simp only [X__law_number_eq, xAddS_eq, xAnd_eq, xB_eq, xCallG_eq, xCallH_eq, xCall_eq, xCons_eq, xE1_eq, xE2_eq, xEq_eq, xEx_eq, xFor_eq, xGe_eq, xGt_eq, xIf_eq, xIx_eq, xLc_eq, xLe_eq, xLen_eq, xLt_eq, xMaxD_eq, xMax_eq, xName_eq, xNe_eq, xNot_eq, xOr_eq, xPut_eq, xRet_eq, xSeq_eq, xSet_eq, xSum_eq, xT_eq, xTupC_eq, xVar_eq, xr1_eq, xrunG_eq, xrunH_eq, xAppM_eq]
noncomputable def X__law_same_shapes : Sv := (xSeq (xIf (xOr (xNot (xB (xE1 (kIsi .lst) (xVar 0)))) (xB (xE2 xNe (xCall xLen (xCons (xVar 0) eNil)) (xCall xLen (xCons (xVar 1) eNil))))) (xRet (eC (.bl false))) gNx)
  (xSeq (xFor (xr1 (xCall xLen (xCons (xVar 1) eNil))) (xName 2)
  (xSeq (xSet 3 (xE2 xIx (xVar 0) (xVar 2)))
  (xSeq (xIf (xOr (xNot (xB (xE1 (kIsi .tup) (xVar 3)))) (xB (xE2 xNe (xCall xLen (xCons (xVar 3) eNil)) (xCall xLen (xCons (xE2 xIx (xVar 1) (xVar 2)) eNil))))) (xRet (eC (.bl false))) gNx)
  (xFor (xr1 (xCall xLen (xCons (xVar 3) eNil))) (xName 4)
  (xIf (xNot (xB (xCallG 2 Y__law_is_count (xCons (xE2 xIx (xVar 3) (xVar 4)) (xCons (xE2 xIx (xE2 xIx (xVar 1) (xVar 2)) (xVar 4)) eNil))))) (xRet (eC (.bl false))) gNx)))))
  (xRet (eC (.bl true)))))
theorem X__law_same_shapes_eq : X__law_same_shapes = B__law_same_shapes := by
  unfold X__law_same_shapes B__law_same_shapes
  simp only [Y__law_is_count_eq, xAddS_eq, xAnd_eq, xB_eq, xCallG_eq, xCallH_eq, xCall_eq, xCons_eq, xE1_eq, xE2_eq, xEq_eq, xEx_eq, xFor_eq, xGe_eq, xGt_eq, xIf_eq, xIx_eq, xLc_eq, xLe_eq, xLen_eq, xLt_eq, xMaxD_eq, xMax_eq, xName_eq, xNe_eq, xNot_eq, xOr_eq, xPut_eq, xRet_eq, xSeq_eq, xSet_eq, xSum_eq, xT_eq, xTupC_eq, xVar_eq, xr1_eq, xrunG_eq, xrunH_eq, xAppM_eq]
noncomputable def Y__law_same_shapes : Fg := xrunG 5 X__law_same_shapes
theorem Y__law_same_shapes_eq : Y__law_same_shapes = F__law_same_shapes := by
  unfold Y__law_same_shapes F__law_same_shapes
  simp only [X__law_same_shapes_eq, xAddS_eq, xAnd_eq, xB_eq, xCallG_eq, xCallH_eq, xCall_eq, xCons_eq, xE1_eq, xE2_eq, xEq_eq, xEx_eq, xFor_eq, xGe_eq, xGt_eq, xIf_eq, xIx_eq, xLc_eq, xLe_eq, xLen_eq, xLt_eq, xMaxD_eq, xMax_eq, xName_eq, xNe_eq, xNot_eq, xOr_eq, xPut_eq, xRet_eq, xSeq_eq, xSet_eq, xSum_eq, xT_eq, xTupC_eq, xVar_eq, xr1_eq, xrunG_eq, xrunH_eq, xAppM_eq]
noncomputable def X_good_count : Sv := (xSeq (xEx (xCallG 1 Y_check_size (xCons (xVar 0) eNil)))
  (xRet (xCall xSum (xCons (eF (xLc (eSeq (xCallH 2 (Y_shapes_of 12) (xCons (xVar 1) (xCons (xVar 0) eNil)))) (xName 2) bYes (xE2 (kI cPow fun i j => i ^ j.toNat) (xCallG 1 Y_filling_count (xCons (xVar 2) eNil)) (eC (.int 2))) [2])) eNil))))
theorem X_good_count_eq : X_good_count = B_good_count := by
  unfold X_good_count B_good_count
  simp only [Y_check_size_eq, Y_filling_count_eq, Y_shapes_of_eq, xAddS_eq, xAnd_eq, xB_eq, xCallG_eq, xCallH_eq, xCall_eq, xCons_eq, xE1_eq, xE2_eq, xEq_eq, xEx_eq, xFor_eq, xGe_eq, xGt_eq, xIf_eq, xIx_eq, xLc_eq, xLe_eq, xLen_eq, xLt_eq, xMaxD_eq, xMax_eq, xName_eq, xNe_eq, xNot_eq, xOr_eq, xPut_eq, xRet_eq, xSeq_eq, xSet_eq, xSum_eq, xT_eq, xTupC_eq, xVar_eq, xr1_eq, xrunG_eq, xrunH_eq, xAppM_eq]
noncomputable def Y_good_count : Fg := xrunG 3 X_good_count
theorem Y_good_count_eq : Y_good_count = F_good_count := by
  unfold Y_good_count F_good_count
  simp only [X_good_count_eq, xAddS_eq, xAnd_eq, xB_eq, xCallG_eq, xCallH_eq, xCall_eq, xCons_eq, xE1_eq, xE2_eq, xEq_eq, xEx_eq, xFor_eq, xGe_eq, xGt_eq, xIf_eq, xIx_eq, xLc_eq, xLe_eq, xLen_eq, xLt_eq, xMaxD_eq, xMax_eq, xName_eq, xNe_eq, xNot_eq, xOr_eq, xPut_eq, xRet_eq, xSeq_eq, xSet_eq, xSum_eq, xT_eq, xTupC_eq, xVar_eq, xr1_eq, xrunG_eq, xrunH_eq, xAppM_eq]
noncomputable def X__law_refused : Sv := (xSeq (gTryR 2 cat__law_refused_0 ret__law_refused_0 (xEx (xCallG 2 Y_good_count (xCons (xVar 0) (xCons (xVar 1) eNil)))))
  (xRet (eC (.bl false))))
theorem X__law_refused_eq : X__law_refused = B__law_refused := by
  unfold X__law_refused B__law_refused
  simp only [Y_good_count_eq, xAddS_eq, xAnd_eq, xB_eq, xCallG_eq, xCallH_eq, xCall_eq, xCons_eq, xE1_eq, xE2_eq, xEq_eq, xEx_eq, xFor_eq, xGe_eq, xGt_eq, xIf_eq, xIx_eq, xLc_eq, xLe_eq, xLen_eq, xLt_eq, xMaxD_eq, xMax_eq, xName_eq, xNe_eq, xNot_eq, xOr_eq, xPut_eq, xRet_eq, xSeq_eq, xSet_eq, xSum_eq, xT_eq, xTupC_eq, xVar_eq, xr1_eq, xrunG_eq, xrunH_eq, xAppM_eq]
noncomputable def Y__law_refused : Fg := xrunG 3 X__law_refused
theorem Y__law_refused_eq : Y__law_refused = F__law_refused := by
  unfold Y__law_refused F__law_refused
  simp only [X__law_refused_eq, xAddS_eq, xAnd_eq, xB_eq, xCallG_eq, xCallH_eq, xCall_eq, xCons_eq, xE1_eq, xE2_eq, xEq_eq, xEx_eq, xFor_eq, xGe_eq, xGt_eq, xIf_eq, xIx_eq, xLc_eq, xLe_eq, xLen_eq, xLt_eq, xMaxD_eq, xMax_eq, xName_eq, xNe_eq, xNot_eq, xOr_eq, xPut_eq, xRet_eq, xSeq_eq, xSet_eq, xSum_eq, xT_eq, xTupC_eq, xVar_eq, xr1_eq, xrunG_eq, xrunH_eq, xAppM_eq]
noncomputable def XR3_law : Sv := (xRet (eAndV (xCallG 2 Y__law_refused (xCons (xE2 (kI0 fun i j => i - j) (eC (.int 0)) (xE2 (kI cMod Int.fmod) (xCall kInt (xCons (xE2 (kI cDiv Int.fdiv) (xVar 5) (eC (.int 3))) eNil)) (xVar 6))) (xCons (xVar 2) eNil))) (xCallG 2 Y__law_refused (xCons (xE2 xAddS (eC (.int 4)) (xE2 (kI cMod Int.fmod) (xCall kInt (xCons (xE2 (kI cDiv Int.fdiv) (xVar 5) (eC (.int 7))) eNil)) (xVar 6))) (xCons (xVar 2) eNil)))))
theorem XR3_law_eq : XR3_law = R3_law := by
  unfold XR3_law R3_law
  simp only [Y__law_refused_eq, xAddS_eq, xAnd_eq, xB_eq, xCallG_eq, xCallH_eq, xCall_eq, xCons_eq, xE1_eq, xE2_eq, xEq_eq, xEx_eq, xFor_eq, xGe_eq, xGt_eq, xIf_eq, xIx_eq, xLc_eq, xLe_eq, xLen_eq, xLt_eq, xMaxD_eq, xMax_eq, xName_eq, xNe_eq, xNot_eq, xOr_eq, xPut_eq, xRet_eq, xSeq_eq, xSet_eq, xSum_eq, xT_eq, xTupC_eq, xVar_eq, xr1_eq, xrunG_eq, xrunH_eq, xAppM_eq]
noncomputable def XR2_law : Sv := (xSeq (xSet 11 (eC (.int 1)))
  (xSeq (xFor (xr1 (xVar 2)) (xName 12)
  (xSet 11 (xE2 kMul (xVar 11) (xE2 xAddS (xVar 12) (eC (.int 1))))))
  (xSeq (xSet 13 (eC (.int 0)))
  (xSeq (xSet 14 (eC (.int 0)))
  (xSeq (xFor (eSeq (xVar 8)) (xName 15)
  (xSeq (xSet 16 (xCallG 1 Y_filling_count (xCons (xVar 15) eNil)))
  (xSeq (xIf (xOr (xNot (xB (xCallG 2 Y__law_is_count (xCons (xVar 16) (xCons (xE2 (kDgetT BAD) (xVar 7) (xVar 15)) eNil))))) (xB (xE2 xNe (xE2 kMul (xVar 16) (xCallG 1 Y__law_hooks (xCons (xVar 15) eNil))) (xVar 11)))) (xRet (eC (.bl false))) gNx)
  (xSeq (xSet 13 (xE2 xAddS (xVar 13) (xE2 kMul (xVar 16) (xVar 16))))
  (xIf (xB (xE2 xLe (xCall xMax (xCons (xE2 xAddS (eF (eLst (xCons (eC (.int 0)) eNil))) (eF (eListOf (xCons (xVar 15) eNil)))) eNil)) (xVar 4))) (xSet 14 (xE2 xAddS (xVar 14) (xE2 kMul (xE2 (kDgetT BAD) (xVar 7) (xVar 15)) (xE2 (kDgetT BAD) (xVar 7) (xVar 15))))) gNx)))))
  (xSeq (xIf (xOr (xB (xE2 xNe (xVar 13) (xVar 11))) (xNot (xB (xCallG 2 Y__law_is_count (xCons (xCallG 2 Y_good_count (xCons (xVar 4) (xCons (xVar 2) eNil))) (xCons (xVar 14) eNil)))))) (xRet (eC (.bl false))) gNx)
  (xSeq (xIf (xAnd (xB (xE2 xLe (xVar 2) (eC (.int 5)))) (xB (xE2 xNe (xVar 14) (xCall xLen (xCons (eF (xLc (eSeq (xCallG 1 Y__law_listed (xCons (xVar 2) eNil))) (xName 17) (xB (xE2 xLe (xCallG 1 Y__law_longest (xCons (xVar 17) eNil)) (xVar 4))) (xVar 17) [17])) eNil))))) (xRet (eC (.bl false))) gNx)
  (xSeq (xIf (xOr (xAnd (xB (xE2 xLe (xVar 2) (xVar 4))) (xB (xE2 xNe (xVar 14) (xVar 11)))) (xAnd (xB (xE2 xEq (xVar 2) (xE2 xAddS (xVar 4) (eC (.int 1))))) (xB (xE2 xNe (xVar 14) (xE2 (kI0 fun i j => i - j) (xVar 11) (eC (.int 1))))))) (xRet (eC (.bl false))) gNx)
  XR3_law))))))))
theorem XR2_law_eq : XR2_law = R2_law := by
  unfold XR2_law R2_law
  simp only [XR3_law_eq, Y__law_hooks_eq, Y__law_is_count_eq, Y__law_listed_eq, Y__law_longest_eq, Y_filling_count_eq, Y_good_count_eq, xAddS_eq, xAnd_eq, xB_eq, xCallG_eq, xCallH_eq, xCall_eq, xCons_eq, xE1_eq, xE2_eq, xEq_eq, xEx_eq, xFor_eq, xGe_eq, xGt_eq, xIf_eq, xIx_eq, xLc_eq, xLe_eq, xLen_eq, xLt_eq, xMaxD_eq, xMax_eq, xName_eq, xNe_eq, xNot_eq, xOr_eq, xPut_eq, xRet_eq, xSeq_eq, xSet_eq, xSum_eq, xT_eq, xTupC_eq, xVar_eq, xr1_eq, xrunG_eq, xrunH_eq, xAppM_eq]
noncomputable def XM2_law : Sv := (xSeq (xSet 11 (eC (.int 1)))
  (xSeq (xFor (xr1 (xVar 2)) (xName 12)
  (xSet 11 (xE2 kMul (xVar 11) (xE2 xAddS (xVar 12) (eC (.int 1))))))
  (xSeq (xSet 13 (eC (.int 0)))
  (xSeq (xSet 14 (eC (.int 0)))
  (xSeq (xFor (eSeq (xVar 8)) (xName 15)
  (xSeq (xSet 16 (xCallG 1 Y_filling_count (xCons (xVar 15) eNil)))
  (xSeq (xIf (xOr (xNot (xB (xCallG 2 Y__law_is_count (xCons (xVar 16) (xCons (xE2 (kDgetT BAD) (xVar 7) (xVar 15)) eNil))))) (xB (xE2 xNe (xE2 kMul (xVar 16) (xCallG 1 Y__law_hooks (xCons (xVar 15) eNil))) (xVar 11)))) (xRet (eC (.bl false))) gNx)
  (xSeq (xSet 13 (xE2 xAddS (xVar 13) (xE2 kMul (xVar 16) (xVar 16))))
  (xIf (xB (xE2 xLe (xCall xMax (xCons (xE2 xAddS (eF (eLst (xCons (eC (.int 0)) eNil))) (eF (eListOf (xCons (xVar 15) eNil)))) eNil)) (xVar 4))) (xSet 14 (xE2 xAddS (xVar 14) (xE2 kMul (xE2 (kDgetT BAD) (xVar 7) (xVar 15)) (xE2 (kDgetT BAD) (xVar 7) (xVar 15))))) gNx)))))
  (xSeq (xIf (xOr (xB (xE2 xNe (xVar 13) (xVar 11))) (xNot (xB (xCallG 2 Y__law_is_count (xCons (xCallG 2 Y_good_count (xCons (xVar 4) (xCons (xVar 2) eNil))) (xCons (xVar 14) eNil)))))) (xRet (eC (.bl false))) gNx)
  (xSeq (xIf (xAnd (xB (xE2 xLe (xVar 2) (eC (.int 5)))) (xB (xE2 xNe (xVar 14) (xCall xLen (xCons (eF (xLc (eSeq (xCallG 1 Y__law_listed (xCons (xVar 2) eNil))) (xName 17) (xB (xE2 xLe (xCallG 1 Y__law_longest (xCons (xVar 17) eNil)) (xVar 4))) (xVar 17) [17])) eNil))))) (xRet (eC (.bl false))) gNx)
  (xIf (xOr (xAnd (xB (xE2 xLe (xVar 2) (xVar 4))) (xB (xE2 xNe (xVar 14) (xVar 11)))) (xAnd (xB (xE2 xEq (xVar 2) (xE2 xAddS (xVar 4) (eC (.int 1))))) (xB (xE2 xNe (xVar 14) (xE2 (kI0 fun i j => i - j) (xVar 11) (eC (.int 1))))))) (xRet (eC (.bl false))) gNx))))))))
theorem XM2_law_eq : XM2_law = M2_law := by
  unfold XM2_law M2_law
  simp only [Y__law_hooks_eq, Y__law_is_count_eq, Y__law_listed_eq, Y__law_longest_eq, Y_filling_count_eq, Y_good_count_eq, xAddS_eq, xAnd_eq, xB_eq, xCallG_eq, xCallH_eq, xCall_eq, xCons_eq, xE1_eq, xE2_eq, xEq_eq, xEx_eq, xFor_eq, xGe_eq, xGt_eq, xIf_eq, xIx_eq, xLc_eq, xLe_eq, xLen_eq, xLt_eq, xMaxD_eq, xMax_eq, xName_eq, xNe_eq, xNot_eq, xOr_eq, xPut_eq, xRet_eq, xSeq_eq, xSet_eq, xSum_eq, xT_eq, xTupC_eq, xVar_eq, xr1_eq, xrunG_eq, xrunH_eq, xAppM_eq]
noncomputable def XR1_law : Sv := (xSeq (xSet 9 (eF (xLc (eSeq (xVar 8)) (xName 15) (xB (xE2 xLe (xCall xMax (xCons (xE2 xAddS (eF (eLst (xCons (eC (.int 0)) eNil))) (eF (eListOf (xCons (xVar 15) eNil)))) eNil)) (xVar 3))) (xVar 15) [15])))
  (xSeq (xSet 10 (xCallH 2 (Y_shapes_of 12) (xCons (xVar 2) (xCons (xVar 3) eNil))))
  (xSeq (xIf (xNot (xB (eCallR 2 Y__law_same_shapes (xCons (xVar 10) (xCons (xVar 9) eNil))))) (xRet (eC (.bl false))) gNx)
  (xSeq (xEx (xAppM (xVar 10) (xCons (eTup (xCons (eC (.int 1)) eNil)) eNil)))
  (xSeq (xPut (xVar 10) (eC (.int 0)) (eTup (xCons (xE2 xAddS (xVar 2) (eC (.int 1))) eNil)))
  (xSeq (xIf (xNot (xB (eCallR 2 Y__law_same_shapes (xCons (xCallH 2 (Y_shapes_of 12) (xCons (xVar 2) (xCons (xVar 3) eNil))) (xCons (xVar 9) eNil))))) (xRet (eC (.bl false))) gNx)
  XR2_law))))))
theorem XR1_law_eq : XR1_law = R1_law := by
  unfold XR1_law R1_law
  simp only [XR2_law_eq, Y__law_same_shapes_eq, Y_shapes_of_eq, xAddS_eq, xAnd_eq, xB_eq, xCallG_eq, xCallH_eq, xCall_eq, xCons_eq, xE1_eq, xE2_eq, xEq_eq, xEx_eq, xFor_eq, xGe_eq, xGt_eq, xIf_eq, xIx_eq, xLc_eq, xLe_eq, xLen_eq, xLt_eq, xMaxD_eq, xMax_eq, xName_eq, xNe_eq, xNot_eq, xOr_eq, xPut_eq, xRet_eq, xSeq_eq, xSet_eq, xSum_eq, xT_eq, xTupC_eq, xVar_eq, xr1_eq, xrunG_eq, xrunH_eq, xAppM_eq]
noncomputable def XM1_law : Sv := (xSeq (xSet 9 (eF (xLc (eSeq (xVar 8)) (xName 15) (xB (xE2 xLe (xCall xMax (xCons (xE2 xAddS (eF (eLst (xCons (eC (.int 0)) eNil))) (eF (eListOf (xCons (xVar 15) eNil)))) eNil)) (xVar 3))) (xVar 15) [15])))
  (xSeq (xSet 10 (xCallH 2 (Y_shapes_of 12) (xCons (xVar 2) (xCons (xVar 3) eNil))))
  (xSeq (xIf (xNot (xB (eCallR 2 Y__law_same_shapes (xCons (xVar 10) (xCons (xVar 9) eNil))))) (xRet (eC (.bl false))) gNx)
  (xSeq (xEx (xAppM (xVar 10) (xCons (eTup (xCons (eC (.int 1)) eNil)) eNil)))
  (xSeq (xPut (xVar 10) (eC (.int 0)) (eTup (xCons (xE2 xAddS (xVar 2) (eC (.int 1))) eNil)))
  (xIf (xNot (xB (eCallR 2 Y__law_same_shapes (xCons (xCallH 2 (Y_shapes_of 12) (xCons (xVar 2) (xCons (xVar 3) eNil))) (xCons (xVar 9) eNil))))) (xRet (eC (.bl false))) gNx))))))
theorem XM1_law_eq : XM1_law = M1_law := by
  unfold XM1_law M1_law
  simp only [Y__law_same_shapes_eq, Y_shapes_of_eq, xAddS_eq, xAnd_eq, xB_eq, xCallG_eq, xCallH_eq, xCall_eq, xCons_eq, xE1_eq, xE2_eq, xEq_eq, xEx_eq, xFor_eq, xGe_eq, xGt_eq, xIf_eq, xIx_eq, xLc_eq, xLe_eq, xLen_eq, xLt_eq, xMaxD_eq, xMax_eq, xName_eq, xNe_eq, xNot_eq, xOr_eq, xPut_eq, xRet_eq, xSeq_eq, xSet_eq, xSum_eq, xT_eq, xTupC_eq, xVar_eq, xr1_eq, xrunG_eq, xrunH_eq, xAppM_eq]
noncomputable def XR0_law : Sv := (xSeq (xSet 7 (xCallH 1 Y__law_grown (xCons (xVar 2) eNil)))
  (xSeq (xSet 8 (xE2 kSortedDT (xVar 7) (eC (.bl true))))
  XR1_law))
theorem XR0_law_eq : XR0_law = R0_law := by
  unfold XR0_law R0_law
  simp only [XR1_law_eq, Y__law_grown_eq, xAddS_eq, xAnd_eq, xB_eq, xCallG_eq, xCallH_eq, xCall_eq, xCons_eq, xE1_eq, xE2_eq, xEq_eq, xEx_eq, xFor_eq, xGe_eq, xGt_eq, xIf_eq, xIx_eq, xLc_eq, xLe_eq, xLen_eq, xLt_eq, xMaxD_eq, xMax_eq, xName_eq, xNe_eq, xNot_eq, xOr_eq, xPut_eq, xRet_eq, xSeq_eq, xSet_eq, xSum_eq, xT_eq, xTupC_eq, xVar_eq, xr1_eq, xrunG_eq, xrunH_eq, xAppM_eq]
noncomputable def XM0_law : Sv := (xSeq (xSet 7 (xCallH 1 Y__law_grown (xCons (xVar 2) eNil)))
  (xSet 8 (xE2 kSortedDT (xVar 7) (eC (.bl true)))))
theorem XM0_law_eq : XM0_law = M0_law := by
  unfold XM0_law M0_law
  simp only [Y__law_grown_eq, xAddS_eq, xAnd_eq, xB_eq, xCallG_eq, xCallH_eq, xCall_eq, xCons_eq, xE1_eq, xE2_eq, xEq_eq, xEx_eq, xFor_eq, xGe_eq, xGt_eq, xIf_eq, xIx_eq, xLc_eq, xLe_eq, xLen_eq, xLt_eq, xMaxD_eq, xMax_eq, xName_eq, xNe_eq, xNot_eq, xOr_eq, xPut_eq, xRet_eq, xSeq_eq, xSet_eq, xSum_eq, xT_eq, xTupC_eq, xVar_eq, xr1_eq, xrunG_eq, xrunH_eq, xAppM_eq]
noncomputable def X_law : Sv := (xSeq (xSet 1 (xE2 (kI cDiv Int.fdiv) (xCallG 2 Y__law_number (xCons (xVar 0) (xCons (eC (.int 0)) eNil))) (eC (.int 11))))
  (xSeq (xSet 2 (xE2 (kI cMod Int.fmod) (xCall kInt (xCons (xVar 1) eNil)) (eC (.int 10))))
  (xSeq (xSet 3 (xE2 xAddS (eC (.int 1)) (xE2 (kI cMod Int.fmod) (xCall kInt (xCons (xE2 (kI cDiv Int.fdiv) (xVar 1) (eC (.int 10))) eNil)) (eC (.int 9)))))
  (xSeq (xSet 4 (xE2 xAddS (eC (.int 1)) (xE2 (kI cMod Int.fmod) (xCall kInt (xCons (xE2 (kI cDiv Int.fdiv) (xVar 1) (eC (.int 90))) eNil)) (eC (.int 3)))))
  (xSeq (xSet 5 (xCallG 2 Y__law_number (xCons (xVar 0) (xCons (eC (.int 1)) eNil))))
  (xSeq (xSet 6 (xE2 xIx (eF (eLst (xCons (eC (.int 1)) (xCons (eC (.int 9)) (xCons (xE2 (kI cPow fun i j => i ^ j.toNat) (eC (.int 10)) (eC (.int 30))) eNil))))) (xE2 (kI cMod Int.fmod) (xCall kInt (xCons (xVar 5) eNil)) (eC (.int 3)))))
  XR0_law))))))
theorem X_law_eq : X_law = B_law := by
  unfold X_law B_law
  simp only [XR0_law_eq, Y__law_number_eq, xAddS_eq, xAnd_eq, xB_eq, xCallG_eq, xCallH_eq, xCall_eq, xCons_eq, xE1_eq, xE2_eq, xEq_eq, xEx_eq, xFor_eq, xGe_eq, xGt_eq, xIf_eq, xIx_eq, xLc_eq, xLe_eq, xLen_eq, xLt_eq, xMaxD_eq, xMax_eq, xName_eq, xNe_eq, xNot_eq, xOr_eq, xPut_eq, xRet_eq, xSeq_eq, xSet_eq, xSum_eq, xT_eq, xTupC_eq, xVar_eq, xr1_eq, xrunG_eq, xrunH_eq, xAppM_eq]
noncomputable def Y_law : Fg := xrunG 18 X_law
theorem Y_law_eq : Y_law = F_law := by
  unfold Y_law F_law
  simp only [X_law_eq, xAddS_eq, xAnd_eq, xB_eq, xCallG_eq, xCallH_eq, xCall_eq, xCons_eq, xE1_eq, xE2_eq, xEq_eq, xEx_eq, xFor_eq, xGe_eq, xGt_eq, xIf_eq, xIx_eq, xLc_eq, xLe_eq, xLen_eq, xLt_eq, xMaxD_eq, xMax_eq, xName_eq, xNe_eq, xNot_eq, xOr_eq, xPut_eq, xRet_eq, xSeq_eq, xSet_eq, xSum_eq, xT_eq, xTupC_eq, xVar_eq, xr1_eq, xrunG_eq, xrunH_eq, xAppM_eq]
theorem all_mk (ht : ∀ ns, F_law [.scr ns] = .ok (.bl true)) {l : PySem.W.OpenLaw} {w : World} {K : PySem.W.Frag} {h : Heap} {mg : Str → Option Value} {fa : Addr} (X : K.In h) (G : h.Ns mainGlobals mg) (hfa : mg "law" = some (.ref fa))
    {f_check_size : Addr} {od_check_size an_check_size : Option Addr} {sl_check_size : Array (Option Value)} {oc_check_size kV_check_size dc_check_size pm_check_size cd_check_size ct_check_size : Value}
    (a_check_size : PySem.W.nsIn K mainGlobals "check_size" = some (some (.ref f_check_size))) (l_check_size : K.lookup f_check_size = some ⟨oc_check_size, od_check_size, .func (PySem.W.fnOf "check_size" "check_size" (defArgs s_check_size) (defBody s_check_size) (defScope s_check_size) .none kV_check_size dc_check_size pm_check_size an_check_size cd_check_size ct_check_size), sl_check_size⟩) (c_check_size : PySem.W.codeIn K cd_check_size "check_size" = true) (k_check_size : PySem.W.keepIn K (.ref f_check_size) = true)
    {f_shapes_of : Addr} {od_shapes_of an_shapes_of : Option Addr} {sl_shapes_of : Array (Option Value)} {oc_shapes_of kV_shapes_of dc_shapes_of pm_shapes_of cd_shapes_of ct_shapes_of : Value}
    (a_shapes_of : PySem.W.nsIn K mainGlobals "shapes_of" = some (some (.ref f_shapes_of))) (l_shapes_of : K.lookup f_shapes_of = some ⟨oc_shapes_of, od_shapes_of, .func (PySem.W.fnOf "shapes_of" "shapes_of" (defArgs s_shapes_of) (defBody s_shapes_of) (defScope s_shapes_of) .none kV_shapes_of dc_shapes_of pm_shapes_of an_shapes_of cd_shapes_of ct_shapes_of), sl_shapes_of⟩) (c_shapes_of : PySem.W.codeIn K cd_shapes_of "shapes_of" = true) (k_shapes_of : PySem.W.keepIn K (.ref f_shapes_of) = true)
    {f__without_corner : Addr} {od__without_corner an__without_corner : Option Addr} {sl__without_corner : Array (Option Value)} {oc__without_corner kV__without_corner dc__without_corner pm__without_corner cd__without_corner ct__without_corner : Value}
    (a__without_corner : PySem.W.nsIn K mainGlobals "_without_corner" = some (some (.ref f__without_corner))) (l__without_corner : K.lookup f__without_corner = some ⟨oc__without_corner, od__without_corner, .func (PySem.W.fnOf "_without_corner" "_without_corner" (defArgs s__without_corner) (defBody s__without_corner) (defScope s__without_corner) .none kV__without_corner dc__without_corner pm__without_corner an__without_corner cd__without_corner ct__without_corner), sl__without_corner⟩) (c__without_corner : PySem.W.codeIn K cd__without_corner "_without_corner" = true) (k__without_corner : PySem.W.keepIn K (.ref f__without_corner) = true)
    {f__law_cell : Addr} {od__law_cell an__law_cell : Option Addr} {sl__law_cell : Array (Option Value)} {oc__law_cell kV__law_cell dc__law_cell pm__law_cell cd__law_cell ct__law_cell : Value}
    (a__law_cell : PySem.W.nsIn K mainGlobals "_law_cell" = some (some (.ref f__law_cell))) (l__law_cell : K.lookup f__law_cell = some ⟨oc__law_cell, od__law_cell, .func (PySem.W.fnOf "_law_cell" "_law_cell" (defArgs s__law_cell) (defBody s__law_cell) (defScope s__law_cell) .none kV__law_cell dc__law_cell pm__law_cell an__law_cell cd__law_cell ct__law_cell), sl__law_cell⟩) (c__law_cell : PySem.W.codeIn K cd__law_cell "_law_cell" = true) (k__law_cell : PySem.W.keepIn K (.ref f__law_cell) = true)
    {f__law_longest : Addr} {od__law_longest an__law_longest : Option Addr} {sl__law_longest : Array (Option Value)} {oc__law_longest kV__law_longest dc__law_longest pm__law_longest cd__law_longest ct__law_longest : Value}
    (a__law_longest : PySem.W.nsIn K mainGlobals "_law_longest" = some (some (.ref f__law_longest))) (l__law_longest : K.lookup f__law_longest = some ⟨oc__law_longest, od__law_longest, .func (PySem.W.fnOf "_law_longest" "_law_longest" (defArgs s__law_longest) (defBody s__law_longest) (defScope s__law_longest) .none kV__law_longest dc__law_longest pm__law_longest an__law_longest cd__law_longest ct__law_longest), sl__law_longest⟩) (c__law_longest : PySem.W.codeIn K cd__law_longest "_law_longest" = true) (k__law_longest : PySem.W.keepIn K (.ref f__law_longest) = true)
    {f__law_listed : Addr} {od__law_listed an__law_listed : Option Addr} {sl__law_listed : Array (Option Value)} {oc__law_listed kV__law_listed dc__law_listed pm__law_listed cd__law_listed ct__law_listed : Value}
    (a__law_listed : PySem.W.nsIn K mainGlobals "_law_listed" = some (some (.ref f__law_listed))) (l__law_listed : K.lookup f__law_listed = some ⟨oc__law_listed, od__law_listed, .func (PySem.W.fnOf "_law_listed" "_law_listed" (defArgs s__law_listed) (defBody s__law_listed) (defScope s__law_listed) .none kV__law_listed dc__law_listed pm__law_listed an__law_listed cd__law_listed ct__law_listed), sl__law_listed⟩) (c__law_listed : PySem.W.codeIn K cd__law_listed "_law_listed" = true) (k__law_listed : PySem.W.keepIn K (.ref f__law_listed) = true)
    {f__law_grown : Addr} {od__law_grown an__law_grown : Option Addr} {sl__law_grown : Array (Option Value)} {oc__law_grown kV__law_grown dc__law_grown pm__law_grown cd__law_grown ct__law_grown : Value}
    (a__law_grown : PySem.W.nsIn K mainGlobals "_law_grown" = some (some (.ref f__law_grown))) (l__law_grown : K.lookup f__law_grown = some ⟨oc__law_grown, od__law_grown, .func (PySem.W.fnOf "_law_grown" "_law_grown" (defArgs s__law_grown) (defBody s__law_grown) (defScope s__law_grown) .none kV__law_grown dc__law_grown pm__law_grown an__law_grown cd__law_grown ct__law_grown), sl__law_grown⟩) (c__law_grown : PySem.W.codeIn K cd__law_grown "_law_grown" = true) (k__law_grown : PySem.W.keepIn K (.ref f__law_grown) = true)
    {f__law_hooks : Addr} {od__law_hooks an__law_hooks : Option Addr} {sl__law_hooks : Array (Option Value)} {oc__law_hooks kV__law_hooks dc__law_hooks pm__law_hooks cd__law_hooks ct__law_hooks : Value}
    (a__law_hooks : PySem.W.nsIn K mainGlobals "_law_hooks" = some (some (.ref f__law_hooks))) (l__law_hooks : K.lookup f__law_hooks = some ⟨oc__law_hooks, od__law_hooks, .func (PySem.W.fnOf "_law_hooks" "_law_hooks" (defArgs s__law_hooks) (defBody s__law_hooks) (defScope s__law_hooks) .none kV__law_hooks dc__law_hooks pm__law_hooks an__law_hooks cd__law_hooks ct__law_hooks), sl__law_hooks⟩) (c__law_hooks : PySem.W.codeIn K cd__law_hooks "_law_hooks" = true) (k__law_hooks : PySem.W.keepIn K (.ref f__law_hooks) = true)
    {f__law_is_count : Addr} {od__law_is_count an__law_is_count : Option Addr} {sl__law_is_count : Array (Option Value)} {oc__law_is_count kV__law_is_count dc__law_is_count pm__law_is_count cd__law_is_count ct__law_is_count : Value}
    (a__law_is_count : PySem.W.nsIn K mainGlobals "_law_is_count" = some (some (.ref f__law_is_count))) (l__law_is_count : K.lookup f__law_is_count = some ⟨oc__law_is_count, od__law_is_count, .func (PySem.W.fnOf "_law_is_count" "_law_is_count" (defArgs s__law_is_count) (defBody s__law_is_count) (defScope s__law_is_count) .none kV__law_is_count dc__law_is_count pm__law_is_count an__law_is_count cd__law_is_count ct__law_is_count), sl__law_is_count⟩) (c__law_is_count : PySem.W.codeIn K cd__law_is_count "_law_is_count" = true) (k__law_is_count : PySem.W.keepIn K (.ref f__law_is_count) = true)
    {f_filling_count : Addr} {od_filling_count an_filling_count : Option Addr} {sl_filling_count : Array (Option Value)} {oc_filling_count kV_filling_count dc_filling_count pm_filling_count cd_filling_count ct_filling_count : Value}
    (a_filling_count : PySem.W.nsIn K mainGlobals "filling_count" = some (some (.ref f_filling_count))) (l_filling_count : K.lookup f_filling_count = some ⟨oc_filling_count, od_filling_count, .func (PySem.W.fnOf "filling_count" "filling_count" (defArgs s_filling_count) (defBody s_filling_count) (defScope s_filling_count) .none kV_filling_count dc_filling_count pm_filling_count an_filling_count cd_filling_count ct_filling_count), sl_filling_count⟩) (c_filling_count : PySem.W.codeIn K cd_filling_count "filling_count" = true) (k_filling_count : PySem.W.keepIn K (.ref f_filling_count) = true)
    {f__law_number : Addr} {od__law_number an__law_number : Option Addr} {sl__law_number : Array (Option Value)} {oc__law_number kV__law_number dc__law_number pm__law_number cd__law_number ct__law_number : Value}
    (a__law_number : PySem.W.nsIn K mainGlobals "_law_number" = some (some (.ref f__law_number))) (l__law_number : K.lookup f__law_number = some ⟨oc__law_number, od__law_number, .func (PySem.W.fnOf "_law_number" "_law_number" (defArgs s__law_number) (defBody s__law_number) (defScope s__law_number) .none kV__law_number dc__law_number pm__law_number an__law_number cd__law_number ct__law_number), sl__law_number⟩) (c__law_number : PySem.W.codeIn K cd__law_number "_law_number" = true) (k__law_number : PySem.W.keepIn K (.ref f__law_number) = true)
    {f__law_same_shapes : Addr} {od__law_same_shapes an__law_same_shapes : Option Addr} {sl__law_same_shapes : Array (Option Value)} {oc__law_same_shapes kV__law_same_shapes dc__law_same_shapes pm__law_same_shapes cd__law_same_shapes ct__law_same_shapes : Value}
    (a__law_same_shapes : PySem.W.nsIn K mainGlobals "_law_same_shapes" = some (some (.ref f__law_same_shapes))) (l__law_same_shapes : K.lookup f__law_same_shapes = some ⟨oc__law_same_shapes, od__law_same_shapes, .func (PySem.W.fnOf "_law_same_shapes" "_law_same_shapes" (defArgs s__law_same_shapes) (defBody s__law_same_shapes) (defScope s__law_same_shapes) .none kV__law_same_shapes dc__law_same_shapes pm__law_same_shapes an__law_same_shapes cd__law_same_shapes ct__law_same_shapes), sl__law_same_shapes⟩) (c__law_same_shapes : PySem.W.codeIn K cd__law_same_shapes "_law_same_shapes" = true) (k__law_same_shapes : PySem.W.keepIn K (.ref f__law_same_shapes) = true)
    {f_good_count : Addr} {od_good_count an_good_count : Option Addr} {sl_good_count : Array (Option Value)} {oc_good_count kV_good_count dc_good_count pm_good_count cd_good_count ct_good_count : Value}
    (a_good_count : PySem.W.nsIn K mainGlobals "good_count" = some (some (.ref f_good_count))) (l_good_count : K.lookup f_good_count = some ⟨oc_good_count, od_good_count, .func (PySem.W.fnOf "good_count" "good_count" (defArgs s_good_count) (defBody s_good_count) (defScope s_good_count) .none kV_good_count dc_good_count pm_good_count an_good_count cd_good_count ct_good_count), sl_good_count⟩) (c_good_count : PySem.W.codeIn K cd_good_count "good_count" = true) (k_good_count : PySem.W.keepIn K (.ref f_good_count) = true)
    {f__law_refused : Addr} {od__law_refused an__law_refused : Option Addr} {sl__law_refused : Array (Option Value)} {oc__law_refused kV__law_refused dc__law_refused pm__law_refused cd__law_refused ct__law_refused : Value}
    (a__law_refused : PySem.W.nsIn K mainGlobals "_law_refused" = some (some (.ref f__law_refused))) (l__law_refused : K.lookup f__law_refused = some ⟨oc__law_refused, od__law_refused, .func (PySem.W.fnOf "_law_refused" "_law_refused" (defArgs s__law_refused) (defBody s__law_refused) (defScope s__law_refused) .none kV__law_refused dc__law_refused pm__law_refused an__law_refused cd__law_refused ct__law_refused), sl__law_refused⟩) (c__law_refused : PySem.W.codeIn K cd__law_refused "_law_refused" = true) (k__law_refused : PySem.W.keepIn K (.ref f__law_refused) = true)
    {f_law : Addr} {od_law an_law : Option Addr} {sl_law : Array (Option Value)} {oc_law kV_law dc_law pm_law cd_law ct_law : Value}
    (a_law : PySem.W.nsIn K mainGlobals "law" = some (some (.ref f_law))) (l_law : K.lookup f_law = some ⟨oc_law, od_law, .func (PySem.W.fnOf "law" "law" (defArgs s_law) (defBody s_law) (defScope s_law) .none kV_law dc_law pm_law an_law cd_law ct_law), sl_law⟩) (c_law : PySem.W.codeIn K cd_law "law" = true) (k_law : PySem.W.keepIn K (.ref f_law) = true)
    {f_TableError : Addr} (n_TableError : PySem.W.nsIn K mainGlobals "TableError" = some (some (.ref f_TableError))) (kp_TableError : PySem.W.keepIn K (.ref f_TableError) = true) (bp_TableError : PySem.W.subIn K (.ref f_TableError) (.type "BaseException") = some true) (tp_TableError : PySem.W.typeIn K (.ref f_TableError) = some (.type "type")) (ip_TableError : PySem.W.isClsIn K f_TableError = true)
    (ea_TableError : PySem.W.findIn K (.ref f_TableError) "__getattribute__" = some (some (.builtin "BaseException.__getattribute__"))) (eb_TableError : PySem.W.findIn K (.ref f_TableError) "__getattr__" = some none) (ecc_TableError : PySem.W.hasDictIn K f_TableError = true) (ed_TableError : PySem.W.findIn K (.ref f_TableError) "__class__" = some (some (.builtin "object.__class__"))) (ee_TableError : PySem.W.specialIn K (.builtin "object.__class__") "__get__" = some (some (.builtin "getset_descriptor.__get__"))) (ef_TableError : PySem.W.takesIn K (.builtin "object.__class__") = some true) (eg_TableError : PySem.W.mroIn K f_TableError (.type "object") = some true)
    {f_WrongSize : Addr} (n_WrongSize : PySem.W.nsIn K mainGlobals "WrongSize" = some (some (.ref f_WrongSize))) (kp_WrongSize : PySem.W.keepIn K (.ref f_WrongSize) = true) (bp_WrongSize : PySem.W.subIn K (.ref f_WrongSize) (.type "BaseException") = some true) (tp_WrongSize : PySem.W.typeIn K (.ref f_WrongSize) = some (.type "type")) (ip_WrongSize : PySem.W.isClsIn K f_WrongSize = true)
    (e_WrongSize : PySem.W.excIn K f_WrongSize veB "ValueError.__new__" = true)
    (ea_WrongSize : PySem.W.findIn K (.ref f_WrongSize) "__getattribute__" = some (some (.builtin "BaseException.__getattribute__"))) (eb_WrongSize : PySem.W.findIn K (.ref f_WrongSize) "__getattr__" = some none) (ecc_WrongSize : PySem.W.hasDictIn K f_WrongSize = true) (ed_WrongSize : PySem.W.findIn K (.ref f_WrongSize) "__class__" = some (some (.builtin "object.__class__"))) (ee_WrongSize : PySem.W.specialIn K (.builtin "object.__class__") "__get__" = some (some (.builtin "getset_descriptor.__get__"))) (ef_WrongSize : PySem.W.takesIn K (.builtin "object.__class__") = some true) (eg_WrongSize : PySem.W.mroIn K f_WrongSize (.type "object") = some true)
    {f_WrongKind : Addr} (n_WrongKind : PySem.W.nsIn K mainGlobals "WrongKind" = some (some (.ref f_WrongKind))) (kp_WrongKind : PySem.W.keepIn K (.ref f_WrongKind) = true) (bp_WrongKind : PySem.W.subIn K (.ref f_WrongKind) (.type "BaseException") = some true) (tp_WrongKind : PySem.W.typeIn K (.ref f_WrongKind) = some (.type "type")) (ip_WrongKind : PySem.W.isClsIn K f_WrongKind = true)
    (ea_WrongKind : PySem.W.findIn K (.ref f_WrongKind) "__getattribute__" = some (some (.builtin "BaseException.__getattribute__"))) (eb_WrongKind : PySem.W.findIn K (.ref f_WrongKind) "__getattr__" = some none) (ecc_WrongKind : PySem.W.hasDictIn K f_WrongKind = true) (ed_WrongKind : PySem.W.findIn K (.ref f_WrongKind) "__class__" = some (some (.builtin "object.__class__"))) (ee_WrongKind : PySem.W.specialIn K (.builtin "object.__class__") "__get__" = some (some (.builtin "getset_descriptor.__get__"))) (ef_WrongKind : PySem.W.takesIn K (.builtin "object.__class__") = some true) (eg_WrongKind : PySem.W.mroIn K f_WrongKind (.type "object") = some true)
    {f_InvalidPermutation : Addr} (n_InvalidPermutation : PySem.W.nsIn K mainGlobals "InvalidPermutation" = some (some (.ref f_InvalidPermutation))) (kp_InvalidPermutation : PySem.W.keepIn K (.ref f_InvalidPermutation) = true) (bp_InvalidPermutation : PySem.W.subIn K (.ref f_InvalidPermutation) (.type "BaseException") = some true) (tp_InvalidPermutation : PySem.W.typeIn K (.ref f_InvalidPermutation) = some (.type "type")) (ip_InvalidPermutation : PySem.W.isClsIn K f_InvalidPermutation = true)
    (ea_InvalidPermutation : PySem.W.findIn K (.ref f_InvalidPermutation) "__getattribute__" = some (some (.builtin "BaseException.__getattribute__"))) (eb_InvalidPermutation : PySem.W.findIn K (.ref f_InvalidPermutation) "__getattr__" = some none) (ecc_InvalidPermutation : PySem.W.hasDictIn K f_InvalidPermutation = true) (ed_InvalidPermutation : PySem.W.findIn K (.ref f_InvalidPermutation) "__class__" = some (some (.builtin "object.__class__"))) (ee_InvalidPermutation : PySem.W.specialIn K (.builtin "object.__class__") "__get__" = some (some (.builtin "getset_descriptor.__get__"))) (ef_InvalidPermutation : PySem.W.takesIn K (.builtin "object.__class__") = some true) (eg_InvalidPermutation : PySem.W.mroIn K f_InvalidPermutation (.type "object") = some true)
    {f_TooLarge : Addr} (n_TooLarge : PySem.W.nsIn K mainGlobals "TooLarge" = some (some (.ref f_TooLarge))) (kp_TooLarge : PySem.W.keepIn K (.ref f_TooLarge) = true) (bp_TooLarge : PySem.W.subIn K (.ref f_TooLarge) (.type "BaseException") = some true) (tp_TooLarge : PySem.W.typeIn K (.ref f_TooLarge) = some (.type "type")) (ip_TooLarge : PySem.W.isClsIn K f_TooLarge = true)
    (ea_TooLarge : PySem.W.findIn K (.ref f_TooLarge) "__getattribute__" = some (some (.builtin "BaseException.__getattribute__"))) (eb_TooLarge : PySem.W.findIn K (.ref f_TooLarge) "__getattr__" = some none) (ecc_TooLarge : PySem.W.hasDictIn K f_TooLarge = true) (ed_TooLarge : PySem.W.findIn K (.ref f_TooLarge) "__class__" = some (some (.builtin "object.__class__"))) (ee_TooLarge : PySem.W.specialIn K (.builtin "object.__class__") "__get__" = some (some (.builtin "getset_descriptor.__get__"))) (ef_TooLarge : PySem.W.takesIn K (.builtin "object.__class__") = some true) (eg_TooLarge : PySem.W.mroIn K f_TooLarge (.type "object") = some true)
    (s_InvalidPermutation_InvalidPermutation : PySem.W.subIn K (.ref f_InvalidPermutation) (.ref f_InvalidPermutation) = some true)
    (s_InvalidPermutation_TableError : PySem.W.subIn K (.ref f_InvalidPermutation) (.ref f_TableError) = some true)
    (s_InvalidPermutation_TooLarge : PySem.W.subIn K (.ref f_InvalidPermutation) (.ref f_TooLarge) = some false)
    (s_InvalidPermutation_WrongKind : PySem.W.subIn K (.ref f_InvalidPermutation) (.ref f_WrongKind) = some false)
    (s_InvalidPermutation_WrongSize : PySem.W.subIn K (.ref f_InvalidPermutation) (.ref f_WrongSize) = some false)
    (s_TableError_InvalidPermutation : PySem.W.subIn K (.ref f_TableError) (.ref f_InvalidPermutation) = some false)
    (s_TableError_TableError : PySem.W.subIn K (.ref f_TableError) (.ref f_TableError) = some true)
    (s_TableError_TooLarge : PySem.W.subIn K (.ref f_TableError) (.ref f_TooLarge) = some false)
    (s_TableError_WrongKind : PySem.W.subIn K (.ref f_TableError) (.ref f_WrongKind) = some false)
    (s_TableError_WrongSize : PySem.W.subIn K (.ref f_TableError) (.ref f_WrongSize) = some false)
    (s_TooLarge_InvalidPermutation : PySem.W.subIn K (.ref f_TooLarge) (.ref f_InvalidPermutation) = some false)
    (s_TooLarge_TableError : PySem.W.subIn K (.ref f_TooLarge) (.ref f_TableError) = some true)
    (s_TooLarge_TooLarge : PySem.W.subIn K (.ref f_TooLarge) (.ref f_TooLarge) = some true)
    (s_TooLarge_WrongKind : PySem.W.subIn K (.ref f_TooLarge) (.ref f_WrongKind) = some false)
    (s_TooLarge_WrongSize : PySem.W.subIn K (.ref f_TooLarge) (.ref f_WrongSize) = some false)
    (s_WrongKind_InvalidPermutation : PySem.W.subIn K (.ref f_WrongKind) (.ref f_InvalidPermutation) = some false)
    (s_WrongKind_TableError : PySem.W.subIn K (.ref f_WrongKind) (.ref f_TableError) = some true)
    (s_WrongKind_TooLarge : PySem.W.subIn K (.ref f_WrongKind) (.ref f_TooLarge) = some false)
    (s_WrongKind_WrongKind : PySem.W.subIn K (.ref f_WrongKind) (.ref f_WrongKind) = some true)
    (s_WrongKind_WrongSize : PySem.W.subIn K (.ref f_WrongKind) (.ref f_WrongSize) = some false)
    (s_WrongSize_InvalidPermutation : PySem.W.subIn K (.ref f_WrongSize) (.ref f_InvalidPermutation) = some false)
    (s_WrongSize_TableError : PySem.W.subIn K (.ref f_WrongSize) (.ref f_TableError) = some true)
    (s_WrongSize_TooLarge : PySem.W.subIn K (.ref f_WrongSize) (.ref f_TooLarge) = some false)
    (s_WrongSize_WrongKind : PySem.W.subIn K (.ref f_WrongSize) (.ref f_WrongKind) = some false)
    (s_WrongSize_WrongSize : PySem.W.subIn K (.ref f_WrongSize) (.ref f_WrongSize) = some true)
    {f_SIZES : Addr} {t0_SIZES t1_SIZES t2_SIZES : Tok} {od_SIZES : Option Addr} {nn_SIZES : Nat} {sl_SIZES : Array (Option Value)} (n_SIZES : PySem.W.nsIn K mainGlobals "SIZES" = some (some (.ref f_SIZES))) (l_SIZES : K.lookup f_SIZES = some ⟨.type "tuple", od_SIZES, .seq #[.int 1 t0_SIZES, .int 2 t1_SIZES, .int 3 t2_SIZES] nn_SIZES, sl_SIZES⟩)
    (z_abs : PySem.W.nsIn K mainGlobals "abs" = some none)
    (z_bool : PySem.W.nsIn K mainGlobals "bool" = some none)
    (z_enumerate : PySem.W.nsIn K mainGlobals "enumerate" = some none)
    (z_int : PySem.W.nsIn K mainGlobals "int" = some none)
    (z_isinstance : PySem.W.nsIn K mainGlobals "isinstance" = some none)
    (z_len : PySem.W.nsIn K mainGlobals "len" = some none)
    (z_list : PySem.W.nsIn K mainGlobals "list" = some none)
    (z_max : PySem.W.nsIn K mainGlobals "max" = some none)
    (z_min : PySem.W.nsIn K mainGlobals "min" = some none)
    (z_range : PySem.W.nsIn K mainGlobals "range" = some none)
    (z_sorted : PySem.W.nsIn K mainGlobals "sorted" = some none)
    (z_sum : PySem.W.nsIn K mainGlobals "sum" = some none)
    (z_tuple : PySem.W.nsIn K mainGlobals "tuple" = some none)
    : ∃ fd : FuncData, (∀ (s : Shared) (v : Value), BindsTo s fd ⟨[v], []⟩ [("script", v)]) ∧ ∀ base : Heap, K.In base → base.Ns mainGlobals mg → FnOk l.prog w K mg base (L2.CX l.prog w) 16 fa fd ["script"] (topSp K) := by
  have e := hfa.symm.trans (PySem.W.mg_of X G a_law)
  cases e
  have FF_check_size := fun_mk (st := s_check_size) l_check_size c_check_size k_check_size
  have FF_shapes_of := fun_mk (st := s_shapes_of) l_shapes_of c_shapes_of k_shapes_of
  have FF__without_corner := fun_mk (st := s__without_corner) l__without_corner c__without_corner k__without_corner
  have FF__law_cell := fun_mk (st := s__law_cell) l__law_cell c__law_cell k__law_cell
  have FF__law_longest := fun_mk (st := s__law_longest) l__law_longest c__law_longest k__law_longest
  have FF__law_listed := fun_mk (st := s__law_listed) l__law_listed c__law_listed k__law_listed
  have FF__law_grown := fun_mk (st := s__law_grown) l__law_grown c__law_grown k__law_grown
  have FF__law_hooks := fun_mk (st := s__law_hooks) l__law_hooks c__law_hooks k__law_hooks
  have FF__law_is_count := fun_mk (st := s__law_is_count) l__law_is_count c__law_is_count k__law_is_count
  have FF_filling_count := fun_mk (st := s_filling_count) l_filling_count c_filling_count k_filling_count
  have FF__law_number := fun_mk (st := s__law_number) l__law_number c__law_number k__law_number
  have FF__law_same_shapes := fun_mk (st := s__law_same_shapes) l__law_same_shapes c__law_same_shapes k__law_same_shapes
  have FF_good_count := fun_mk (st := s_good_count) l_good_count c_good_count k_good_count
  have FF__law_refused := fun_mk (st := s__law_refused) l__law_refused c__law_refused k__law_refused
  have FF_law := fun_mk (st := s_law) l_law c_law k_law
  exact ⟨PySem.W.fnOf "law" "law" (defArgs s_law) (defBody s_law) (defScope s_law) .none kV_law dc_law pm_law an_law cd_law ct_law, fun s v => .of_eq rfl, fun base _ _ => ok_top (K := K) rfl ht (ok_law (base := base) (P := l.prog) (w := w) {
    z_abs := PySem.W.mg_none_of X G z_abs,
    z_bool := PySem.W.mg_none_of X G z_bool,
    z_enumerate := PySem.W.mg_none_of X G z_enumerate,
    z_int := PySem.W.mg_none_of X G z_int,
    z_isinstance := PySem.W.mg_none_of X G z_isinstance,
    z_len := PySem.W.mg_none_of X G z_len,
    z_list := PySem.W.mg_none_of X G z_list,
    z_max := PySem.W.mg_none_of X G z_max,
    z_min := PySem.W.mg_none_of X G z_min,
    z_range := PySem.W.mg_none_of X G z_range,
    z_sorted := PySem.W.mg_none_of X G z_sorted,
    z_sum := PySem.W.mg_none_of X G z_sum,
    z_tuple := PySem.W.mg_none_of X G z_tuple,
    c_TableError := f_TableError, x_TableError := ⟨PySem.W.mg_of X G n_TableError, kp_TableError, bp_TableError, tp_TableError, ip_TableError⟩,
    ec_TableError := ⟨ea_TableError, eb_TableError, bp_TableError, ecc_TableError, ed_TableError, ee_TableError, ef_TableError, eg_TableError⟩,
    c_WrongSize := f_WrongSize, x_WrongSize := ⟨PySem.W.mg_of X G n_WrongSize, kp_WrongSize, bp_WrongSize, tp_WrongSize, ip_WrongSize⟩,
    e_WrongSize := e_WrongSize,
    ec_WrongSize := ⟨ea_WrongSize, eb_WrongSize, bp_WrongSize, ecc_WrongSize, ed_WrongSize, ee_WrongSize, ef_WrongSize, eg_WrongSize⟩,
    c_WrongKind := f_WrongKind, x_WrongKind := ⟨PySem.W.mg_of X G n_WrongKind, kp_WrongKind, bp_WrongKind, tp_WrongKind, ip_WrongKind⟩,
    ec_WrongKind := ⟨ea_WrongKind, eb_WrongKind, bp_WrongKind, ecc_WrongKind, ed_WrongKind, ee_WrongKind, ef_WrongKind, eg_WrongKind⟩,
    c_InvalidPermutation := f_InvalidPermutation, x_InvalidPermutation := ⟨PySem.W.mg_of X G n_InvalidPermutation, kp_InvalidPermutation, bp_InvalidPermutation, tp_InvalidPermutation, ip_InvalidPermutation⟩,
    ec_InvalidPermutation := ⟨ea_InvalidPermutation, eb_InvalidPermutation, bp_InvalidPermutation, ecc_InvalidPermutation, ed_InvalidPermutation, ee_InvalidPermutation, ef_InvalidPermutation, eg_InvalidPermutation⟩,
    c_TooLarge := f_TooLarge, x_TooLarge := ⟨PySem.W.mg_of X G n_TooLarge, kp_TooLarge, bp_TooLarge, tp_TooLarge, ip_TooLarge⟩,
    ec_TooLarge := ⟨ea_TooLarge, eb_TooLarge, bp_TooLarge, ecc_TooLarge, ed_TooLarge, ee_TooLarge, ef_TooLarge, eg_TooLarge⟩,
    s_InvalidPermutation_InvalidPermutation := s_InvalidPermutation_InvalidPermutation,
    s_InvalidPermutation_TableError := s_InvalidPermutation_TableError,
    s_InvalidPermutation_TooLarge := s_InvalidPermutation_TooLarge,
    s_InvalidPermutation_WrongKind := s_InvalidPermutation_WrongKind,
    s_InvalidPermutation_WrongSize := s_InvalidPermutation_WrongSize,
    s_TableError_InvalidPermutation := s_TableError_InvalidPermutation,
    s_TableError_TableError := s_TableError_TableError,
    s_TableError_TooLarge := s_TableError_TooLarge,
    s_TableError_WrongKind := s_TableError_WrongKind,
    s_TableError_WrongSize := s_TableError_WrongSize,
    s_TooLarge_InvalidPermutation := s_TooLarge_InvalidPermutation,
    s_TooLarge_TableError := s_TooLarge_TableError,
    s_TooLarge_TooLarge := s_TooLarge_TooLarge,
    s_TooLarge_WrongKind := s_TooLarge_WrongKind,
    s_TooLarge_WrongSize := s_TooLarge_WrongSize,
    s_WrongKind_InvalidPermutation := s_WrongKind_InvalidPermutation,
    s_WrongKind_TableError := s_WrongKind_TableError,
    s_WrongKind_TooLarge := s_WrongKind_TooLarge,
    s_WrongKind_WrongKind := s_WrongKind_WrongKind,
    s_WrongKind_WrongSize := s_WrongKind_WrongSize,
    s_WrongSize_InvalidPermutation := s_WrongSize_InvalidPermutation,
    s_WrongSize_TableError := s_WrongSize_TableError,
    s_WrongSize_TooLarge := s_WrongSize_TooLarge,
    s_WrongSize_WrongKind := s_WrongSize_WrongKind,
    s_WrongSize_WrongSize := s_WrongSize_WrongSize,
    a_SIZES := f_SIZES, g_SIZES := PySem.W.mg_of X G n_SIZES, t_SIZES := fun H => .inr ⟨_, _, _, l_SIZES, rfl, rfl, (by show 3 ≤ sizeLine; rw [sizeLine_eq]; omega), (.cons ⟨_, rfl⟩ (.cons ⟨_, rfl⟩ (.cons ⟨_, rfl⟩ .nil)))⟩,
    a_check_size := f_check_size, fd_check_size := _, F_check_size := FF_check_size, b_check_size := FF_check_size.binds (ps := ["size"]) fun _ _ _ _ _ _ us hl => (match us, hl with | [_], _ => rfl), g_check_size := PySem.W.mg_of X G a_check_size,
    a_shapes_of := f_shapes_of, fd_shapes_of := _, F_shapes_of := FF_shapes_of, b_shapes_of := FF_shapes_of.binds (ps := ["places", "columns"]) fun _ _ _ _ _ _ us hl => (match us, hl with | [_, _], _ => rfl), g_shapes_of := PySem.W.mg_of X G a_shapes_of,
    a__without_corner := f__without_corner, fd__without_corner := _, F__without_corner := FF__without_corner, b__without_corner := FF__without_corner.binds (ps := ["shape"]) fun _ _ _ _ _ _ us hl => (match us, hl with | [_], _ => rfl), g__without_corner := PySem.W.mg_of X G a__without_corner,
    a__law_cell := f__law_cell, fd__law_cell := _, F__law_cell := FF__law_cell, b__law_cell := FF__law_cell.binds (ps := ["script", "k"]) fun _ _ _ _ _ _ us hl => (match us, hl with | [_, _], _ => rfl), g__law_cell := PySem.W.mg_of X G a__law_cell,
    a__law_longest := f__law_longest, fd__law_longest := _, F__law_longest := FF__law_longest, b__law_longest := FF__law_longest.binds (ps := ["perm"]) fun _ _ _ _ _ _ us hl => (match us, hl with | [_], _ => rfl), g__law_longest := PySem.W.mg_of X G a__law_longest,
    a__law_listed := f__law_listed, fd__law_listed := _, F__law_listed := FF__law_listed, b__law_listed := FF__law_listed.binds (ps := ["count"]) fun _ _ _ _ _ _ us hl => (match us, hl with | [_], _ => rfl), g__law_listed := PySem.W.mg_of X G a__law_listed,
    a__law_grown := f__law_grown, fd__law_grown := _, F__law_grown := FF__law_grown, b__law_grown := FF__law_grown.binds (ps := ["cells"]) fun _ _ _ _ _ _ us hl => (match us, hl with | [_], _ => rfl), g__law_grown := PySem.W.mg_of X G a__law_grown,
    a__law_hooks := f__law_hooks, fd__law_hooks := _, F__law_hooks := FF__law_hooks, b__law_hooks := FF__law_hooks.binds (ps := ["shape"]) fun _ _ _ _ _ _ us hl => (match us, hl with | [_], _ => rfl), g__law_hooks := PySem.W.mg_of X G a__law_hooks,
    a__law_is_count := f__law_is_count, fd__law_is_count := _, F__law_is_count := FF__law_is_count, b__law_is_count := FF__law_is_count.binds (ps := ["told", "due"]) fun _ _ _ _ _ _ us hl => (match us, hl with | [_, _], _ => rfl), g__law_is_count := PySem.W.mg_of X G a__law_is_count,
    a_filling_count := f_filling_count, fd_filling_count := _, F_filling_count := FF_filling_count, b_filling_count := FF_filling_count.binds (ps := ["shape"]) fun _ _ _ _ _ _ us hl => (match us, hl with | [_], _ => rfl), g_filling_count := PySem.W.mg_of X G a_filling_count,
    a__law_number := f__law_number, fd__law_number := _, F__law_number := FF__law_number, b__law_number := FF__law_number.binds (ps := ["script", "k"]) fun _ _ _ _ _ _ us hl => (match us, hl with | [_, _], _ => rfl), g__law_number := PySem.W.mg_of X G a__law_number,
    a__law_same_shapes := f__law_same_shapes, fd__law_same_shapes := _, F__law_same_shapes := FF__law_same_shapes, b__law_same_shapes := FF__law_same_shapes.binds (ps := ["told", "due"]) fun _ _ _ _ _ _ us hl => (match us, hl with | [_, _], _ => rfl), g__law_same_shapes := PySem.W.mg_of X G a__law_same_shapes,
    a_good_count := f_good_count, fd_good_count := _, F_good_count := FF_good_count, b_good_count := FF_good_count.binds (ps := ["size", "places"]) fun _ _ _ _ _ _ us hl => (match us, hl with | [_, _], _ => rfl), g_good_count := PySem.W.mg_of X G a_good_count,
    a__law_refused := f__law_refused, fd__law_refused := _, F__law_refused := FF__law_refused, b__law_refused := FF__law_refused.binds (ps := ["size", "cells"]) fun _ _ _ _ _ _ us hl => (match us, hl with | [_, _], _ => rfl), g__law_refused := PySem.W.mg_of X G a__law_refused,
    a_law := fa, fd_law := _, F_law := FF_law, b_law := FF_law.binds (ps := ["script"]) fun _ _ _ _ _ _ us hl => (match us, hl with | [_], _ => rfl), g_law := PySem.W.mg_of X G a_law })⟩
end K26
namespace K26
open PySem L2 Fn
def H_0 : List UO := [.dt [([], (.int 1))]]
def E_0 : List U := [(.tup [])]
def p_0 : Nat := 0
def tF_0 : List (List Int × Int) := [([], 1)]
def tH_0 : List (List Int × Int) := [([], 1)]
def H_1 : List UO := [.dt [([], (.int 1))], .dt [([.inl 1], (.int 1))], .lst [(.int 1)]]
def E_1 : List U := [(.tup [(.int 1)])]
def p_1 : Nat := 1
def tF_1 : List (List Int × Int) := [([1], 1)]
def tH_1 : List (List Int × Int) := [([1], 1)]
def H_2 : List UO := [.dt [([], (.int 1))], .dt [([.inl 1], (.int 1))], .lst [(.int 1)], .dt [([.inl 2], (.int 1)), ([.inl 1, .inl 1], (.int 1))], .lst [(.int 2), (.int 0)], .lst [(.int 1), (.int 1)]]
def E_2 : List U := [(.tup [(.int 2)]), (.tup [(.int 1), (.int 1)])]
def p_2 : Nat := 3
def tF_2 : List (List Int × Int) := [([2], 1), ([1, 1], 1)]
def tH_2 : List (List Int × Int) := [([2], 2), ([1, 1], 2)]
def H_3 : List UO := [.dt [([], (.int 1))], .dt [([.inl 1], (.int 1))], .lst [(.int 1)], .dt [([.inl 2], (.int 1)), ([.inl 1, .inl 1], (.int 1))], .lst [(.int 2), (.int 0)], .lst [(.int 1), (.int 1)], .dt [([.inl 3], (.int 1)), ([.inl 2, .inl 1], (.int 2)), ([.inl 1, .inl 1, .inl 1], (.int 1))], .lst [(.int 3), (.int 0)], .lst [(.int 2), (.int 1)], .lst [(.int 2), (.int 1), (.int 0)], .lst [(.int 1), (.int 2), (.int 0)], .lst [(.int 1), (.int 1), (.int 1)]]
def E_3 : List U := [(.tup [(.int 3)]), (.tup [(.int 2), (.int 1)]), (.tup [(.int 1), (.int 1), (.int 1)])]
def p_3 : Nat := 6
def tF_3 : List (List Int × Int) := [([3], 1), ([2, 1], 2), ([1, 1, 1], 1)]
def tH_3 : List (List Int × Int) := [([3], 6), ([2, 1], 3), ([1, 1, 1], 6)]
def H_4 : List UO := [.dt [([], (.int 1))], .dt [([.inl 1], (.int 1))], .lst [(.int 1)], .dt [([.inl 2], (.int 1)), ([.inl 1, .inl 1], (.int 1))], .lst [(.int 2), (.int 0)], .lst [(.int 1), (.int 1)], .dt [([.inl 3], (.int 1)), ([.inl 2, .inl 1], (.int 2)), ([.inl 1, .inl 1, .inl 1], (.int 1))], .lst [(.int 3), (.int 0)], .lst [(.int 2), (.int 1)], .lst [(.int 2), (.int 1), (.int 0)], .lst [(.int 1), (.int 2), (.int 0)], .lst [(.int 1), (.int 1), (.int 1)], .dt [([.inl 4], (.int 1)), ([.inl 3, .inl 1], (.int 3)), ([.inl 2, .inl 2], (.int 2)), ([.inl 2, .inl 1, .inl 1], (.int 3)), ([.inl 1, .inl 1, .inl 1, .inl 1], (.int 1))], .lst [(.int 4), (.int 0)], .lst [(.int 3), (.int 1)], .lst [(.int 3), (.int 1), (.int 0)], .lst [(.int 2), (.int 2), (.int 0)], .lst [(.int 2), (.int 1), (.int 1)], .lst [(.int 2), (.int 1), (.int 1), (.int 0)], .lst [(.int 1), (.int 2), (.int 1), (.int 0)], .lst [(.int 1), (.int 1), (.int 2), (.int 0)], .lst [(.int 1), (.int 1), (.int 1), (.int 1)]]
def E_4 : List U := [(.tup [(.int 4)]), (.tup [(.int 3), (.int 1)]), (.tup [(.int 2), (.int 2)]), (.tup [(.int 2), (.int 1), (.int 1)]), (.tup [(.int 1), (.int 1), (.int 1), (.int 1)])]
def p_4 : Nat := 12
def tF_4 : List (List Int × Int) := [([4], 1), ([3, 1], 3), ([2, 2], 2), ([2, 1, 1], 3), ([1, 1, 1, 1], 1)]
def tH_4 : List (List Int × Int) := [([4], 24), ([3, 1], 8), ([2, 2], 12), ([2, 1, 1], 8), ([1, 1, 1, 1], 24)]
def H_5 : List UO := [.dt [([], (.int 1))], .dt [([.inl 1], (.int 1))], .lst [(.int 1)], .dt [([.inl 2], (.int 1)), ([.inl 1, .inl 1], (.int 1))], .lst [(.int 2), (.int 0)], .lst [(.int 1), (.int 1)], .dt [([.inl 3], (.int 1)), ([.inl 2, .inl 1], (.int 2)), ([.inl 1, .inl 1, .inl 1], (.int 1))], .lst [(.int 3), (.int 0)], .lst [(.int 2), (.int 1)], .lst [(.int 2), (.int 1), (.int 0)], .lst [(.int 1), (.int 2), (.int 0)], .lst [(.int 1), (.int 1), (.int 1)], .dt [([.inl 4], (.int 1)), ([.inl 3, .inl 1], (.int 3)), ([.inl 2, .inl 2], (.int 2)), ([.inl 2, .inl 1, .inl 1], (.int 3)), ([.inl 1, .inl 1, .inl 1, .inl 1], (.int 1))], .lst [(.int 4), (.int 0)], .lst [(.int 3), (.int 1)], .lst [(.int 3), (.int 1), (.int 0)], .lst [(.int 2), (.int 2), (.int 0)], .lst [(.int 2), (.int 1), (.int 1)], .lst [(.int 2), (.int 1), (.int 1), (.int 0)], .lst [(.int 1), (.int 2), (.int 1), (.int 0)], .lst [(.int 1), (.int 1), (.int 2), (.int 0)], .lst [(.int 1), (.int 1), (.int 1), (.int 1)], .dt [([.inl 5], (.int 1)), ([.inl 4, .inl 1], (.int 4)), ([.inl 3, .inl 2], (.int 5)), ([.inl 3, .inl 1, .inl 1], (.int 6)), ([.inl 2, .inl 2, .inl 1], (.int 5)), ([.inl 2, .inl 1, .inl 1, .inl 1], (.int 4)), ([.inl 1, .inl 1, .inl 1, .inl 1, .inl 1], (.int 1))], .lst [(.int 5), (.int 0)], .lst [(.int 4), (.int 1)], .lst [(.int 4), (.int 1), (.int 0)], .lst [(.int 3), (.int 2), (.int 0)], .lst [(.int 3), (.int 1), (.int 1)], .lst [(.int 3), (.int 2), (.int 0)], .lst [(.int 2), (.int 3), (.int 0)], .lst [(.int 2), (.int 2), (.int 1)], .lst [(.int 3), (.int 1), (.int 1), (.int 0)], .lst [(.int 2), (.int 2), (.int 1), (.int 0)], .lst [(.int 2), (.int 1), (.int 2), (.int 0)], .lst [(.int 2), (.int 1), (.int 1), (.int 1)], .lst [(.int 2), (.int 1), (.int 1), (.int 1), (.int 0)], .lst [(.int 1), (.int 2), (.int 1), (.int 1), (.int 0)], .lst [(.int 1), (.int 1), (.int 2), (.int 1), (.int 0)], .lst [(.int 1), (.int 1), (.int 1), (.int 2), (.int 0)], .lst [(.int 1), (.int 1), (.int 1), (.int 1), (.int 1)]]
def E_5 : List U := [(.tup [(.int 5)]), (.tup [(.int 4), (.int 1)]), (.tup [(.int 3), (.int 2)]), (.tup [(.int 3), (.int 1), (.int 1)]), (.tup [(.int 2), (.int 2), (.int 1)]), (.tup [(.int 2), (.int 1), (.int 1), (.int 1)]), (.tup [(.int 1), (.int 1), (.int 1), (.int 1), (.int 1)])]
def p_5 : Nat := 22
def tF_5 : List (List Int × Int) := [([5], 1), ([4, 1], 4), ([3, 2], 5), ([3, 1, 1], 6), ([2, 2, 1], 5), ([2, 1, 1, 1], 4), ([1, 1, 1, 1, 1], 1)]
def tH_5 : List (List Int × Int) := [([5], 120), ([4, 1], 30), ([3, 2], 24), ([3, 1, 1], 20), ([2, 2, 1], 24), ([2, 1, 1, 1], 30), ([1, 1, 1, 1, 1], 120)]
def H_6 : List UO := [.dt [([], (.int 1))], .dt [([.inl 1], (.int 1))], .lst [(.int 1)], .dt [([.inl 2], (.int 1)), ([.inl 1, .inl 1], (.int 1))], .lst [(.int 2), (.int 0)], .lst [(.int 1), (.int 1)], .dt [([.inl 3], (.int 1)), ([.inl 2, .inl 1], (.int 2)), ([.inl 1, .inl 1, .inl 1], (.int 1))], .lst [(.int 3), (.int 0)], .lst [(.int 2), (.int 1)], .lst [(.int 2), (.int 1), (.int 0)], .lst [(.int 1), (.int 2), (.int 0)], .lst [(.int 1), (.int 1), (.int 1)], .dt [([.inl 4], (.int 1)), ([.inl 3, .inl 1], (.int 3)), ([.inl 2, .inl 2], (.int 2)), ([.inl 2, .inl 1, .inl 1], (.int 3)), ([.inl 1, .inl 1, .inl 1, .inl 1], (.int 1))], .lst [(.int 4), (.int 0)], .lst [(.int 3), (.int 1)], .lst [(.int 3), (.int 1), (.int 0)], .lst [(.int 2), (.int 2), (.int 0)], .lst [(.int 2), (.int 1), (.int 1)], .lst [(.int 2), (.int 1), (.int 1), (.int 0)], .lst [(.int 1), (.int 2), (.int 1), (.int 0)], .lst [(.int 1), (.int 1), (.int 2), (.int 0)], .lst [(.int 1), (.int 1), (.int 1), (.int 1)], .dt [([.inl 5], (.int 1)), ([.inl 4, .inl 1], (.int 4)), ([.inl 3, .inl 2], (.int 5)), ([.inl 3, .inl 1, .inl 1], (.int 6)), ([.inl 2, .inl 2, .inl 1], (.int 5)), ([.inl 2, .inl 1, .inl 1, .inl 1], (.int 4)), ([.inl 1, .inl 1, .inl 1, .inl 1, .inl 1], (.int 1))], .lst [(.int 5), (.int 0)], .lst [(.int 4), (.int 1)], .lst [(.int 4), (.int 1), (.int 0)], .lst [(.int 3), (.int 2), (.int 0)], .lst [(.int 3), (.int 1), (.int 1)], .lst [(.int 3), (.int 2), (.int 0)], .lst [(.int 2), (.int 3), (.int 0)], .lst [(.int 2), (.int 2), (.int 1)], .lst [(.int 3), (.int 1), (.int 1), (.int 0)], .lst [(.int 2), (.int 2), (.int 1), (.int 0)], .lst [(.int 2), (.int 1), (.int 2), (.int 0)], .lst [(.int 2), (.int 1), (.int 1), (.int 1)], .lst [(.int 2), (.int 1), (.int 1), (.int 1), (.int 0)], .lst [(.int 1), (.int 2), (.int 1), (.int 1), (.int 0)], .lst [(.int 1), (.int 1), (.int 2), (.int 1), (.int 0)], .lst [(.int 1), (.int 1), (.int 1), (.int 2), (.int 0)], .lst [(.int 1), (.int 1), (.int 1), (.int 1), (.int 1)], .dt [([.inl 6], (.int 1)), ([.inl 5, .inl 1], (.int 5)), ([.inl 4, .inl 2], (.int 9)), ([.inl 4, .inl 1, .inl 1], (.int 10)), ([.inl 3, .inl 3], (.int 5)), ([.inl 3, .inl 2, .inl 1], (.int 16)), ([.inl 3, .inl 1, .inl 1, .inl 1], (.int 10)), ([.inl 2, .inl 2, .inl 2], (.int 5)), ([.inl 2, .inl 2, .inl 1, .inl 1], (.int 9)), ([.inl 2, .inl 1, .inl 1, .inl 1, .inl 1], (.int 5)), ([.inl 1, .inl 1, .inl 1, .inl 1, .inl 1, .inl 1], (.int 1))], .lst [(.int 6), (.int 0)], .lst [(.int 5), (.int 1)], .lst [(.int 5), (.int 1), (.int 0)], .lst [(.int 4), (.int 2), (.int 0)], .lst [(.int 4), (.int 1), (.int 1)], .lst [(.int 4), (.int 2), (.int 0)], .lst [(.int 3), (.int 3), (.int 0)], .lst [(.int 3), (.int 2), (.int 1)], .lst [(.int 4), (.int 1), (.int 1), (.int 0)], .lst [(.int 3), (.int 2), (.int 1), (.int 0)], .lst [(.int 3), (.int 1), (.int 2), (.int 0)], .lst [(.int 3), (.int 1), (.int 1), (.int 1)], .lst [(.int 3), (.int 2), (.int 1), (.int 0)], .lst [(.int 2), (.int 3), (.int 1), (.int 0)], .lst [(.int 2), (.int 2), (.int 2), (.int 0)], .lst [(.int 2), (.int 2), (.int 1), (.int 1)], .lst [(.int 3), (.int 1), (.int 1), (.int 1), (.int 0)], .lst [(.int 2), (.int 2), (.int 1), (.int 1), (.int 0)], .lst [(.int 2), (.int 1), (.int 2), (.int 1), (.int 0)], .lst [(.int 2), (.int 1), (.int 1), (.int 2), (.int 0)], .lst [(.int 2), (.int 1), (.int 1), (.int 1), (.int 1)], .lst [(.int 2), (.int 1), (.int 1), (.int 1), (.int 1), (.int 0)], .lst [(.int 1), (.int 2), (.int 1), (.int 1), (.int 1), (.int 0)], .lst [(.int 1), (.int 1), (.int 2), (.int 1), (.int 1), (.int 0)], .lst [(.int 1), (.int 1), (.int 1), (.int 2), (.int 1), (.int 0)], .lst [(.int 1), (.int 1), (.int 1), (.int 1), (.int 2), (.int 0)], .lst [(.int 1), (.int 1), (.int 1), (.int 1), (.int 1), (.int 1)]]
def E_6 : List U := [(.tup [(.int 6)]), (.tup [(.int 5), (.int 1)]), (.tup [(.int 4), (.int 2)]), (.tup [(.int 4), (.int 1), (.int 1)]), (.tup [(.int 3), (.int 3)]), (.tup [(.int 3), (.int 2), (.int 1)]), (.tup [(.int 3), (.int 1), (.int 1), (.int 1)]), (.tup [(.int 2), (.int 2), (.int 2)]), (.tup [(.int 2), (.int 2), (.int 1), (.int 1)]), (.tup [(.int 2), (.int 1), (.int 1), (.int 1), (.int 1)]), (.tup [(.int 1), (.int 1), (.int 1), (.int 1), (.int 1), (.int 1)])]
def p_6 : Nat := 40
def tF_6 : List (List Int × Int) := [([6], 1), ([5, 1], 5), ([4, 2], 9), ([4, 1, 1], 10), ([3, 3], 5), ([3, 2, 1], 16), ([3, 1, 1, 1], 10), ([2, 2, 2], 5), ([2, 2, 1, 1], 9), ([2, 1, 1, 1, 1], 5), ([1, 1, 1, 1, 1, 1], 1)]
def tH_6 : List (List Int × Int) := [([6], 720), ([5, 1], 144), ([4, 2], 80), ([4, 1, 1], 72), ([3, 3], 144), ([3, 2, 1], 45), ([3, 1, 1, 1], 72), ([2, 2, 2], 144), ([2, 2, 1, 1], 80), ([2, 1, 1, 1, 1], 144), ([1, 1, 1, 1, 1, 1], 720)]
def H_7 : List UO := [.dt [([], (.int 1))], .dt [([.inl 1], (.int 1))], .lst [(.int 1)], .dt [([.inl 2], (.int 1)), ([.inl 1, .inl 1], (.int 1))], .lst [(.int 2), (.int 0)], .lst [(.int 1), (.int 1)], .dt [([.inl 3], (.int 1)), ([.inl 2, .inl 1], (.int 2)), ([.inl 1, .inl 1, .inl 1], (.int 1))], .lst [(.int 3), (.int 0)], .lst [(.int 2), (.int 1)], .lst [(.int 2), (.int 1), (.int 0)], .lst [(.int 1), (.int 2), (.int 0)], .lst [(.int 1), (.int 1), (.int 1)], .dt [([.inl 4], (.int 1)), ([.inl 3, .inl 1], (.int 3)), ([.inl 2, .inl 2], (.int 2)), ([.inl 2, .inl 1, .inl 1], (.int 3)), ([.inl 1, .inl 1, .inl 1, .inl 1], (.int 1))], .lst [(.int 4), (.int 0)], .lst [(.int 3), (.int 1)], .lst [(.int 3), (.int 1), (.int 0)], .lst [(.int 2), (.int 2), (.int 0)], .lst [(.int 2), (.int 1), (.int 1)], .lst [(.int 2), (.int 1), (.int 1), (.int 0)], .lst [(.int 1), (.int 2), (.int 1), (.int 0)], .lst [(.int 1), (.int 1), (.int 2), (.int 0)], .lst [(.int 1), (.int 1), (.int 1), (.int 1)], .dt [([.inl 5], (.int 1)), ([.inl 4, .inl 1], (.int 4)), ([.inl 3, .inl 2], (.int 5)), ([.inl 3, .inl 1, .inl 1], (.int 6)), ([.inl 2, .inl 2, .inl 1], (.int 5)), ([.inl 2, .inl 1, .inl 1, .inl 1], (.int 4)), ([.inl 1, .inl 1, .inl 1, .inl 1, .inl 1], (.int 1))], .lst [(.int 5), (.int 0)], .lst [(.int 4), (.int 1)], .lst [(.int 4), (.int 1), (.int 0)], .lst [(.int 3), (.int 2), (.int 0)], .lst [(.int 3), (.int 1), (.int 1)], .lst [(.int 3), (.int 2), (.int 0)], .lst [(.int 2), (.int 3), (.int 0)], .lst [(.int 2), (.int 2), (.int 1)], .lst [(.int 3), (.int 1), (.int 1), (.int 0)], .lst [(.int 2), (.int 2), (.int 1), (.int 0)], .lst [(.int 2), (.int 1), (.int 2), (.int 0)], .lst [(.int 2), (.int 1), (.int 1), (.int 1)], .lst [(.int 2), (.int 1), (.int 1), (.int 1), (.int 0)], .lst [(.int 1), (.int 2), (.int 1), (.int 1), (.int 0)], .lst [(.int 1), (.int 1), (.int 2), (.int 1), (.int 0)], .lst [(.int 1), (.int 1), (.int 1), (.int 2), (.int 0)], .lst [(.int 1), (.int 1), (.int 1), (.int 1), (.int 1)], .dt [([.inl 6], (.int 1)), ([.inl 5, .inl 1], (.int 5)), ([.inl 4, .inl 2], (.int 9)), ([.inl 4, .inl 1, .inl 1], (.int 10)), ([.inl 3, .inl 3], (.int 5)), ([.inl 3, .inl 2, .inl 1], (.int 16)), ([.inl 3, .inl 1, .inl 1, .inl 1], (.int 10)), ([.inl 2, .inl 2, .inl 2], (.int 5)), ([.inl 2, .inl 2, .inl 1, .inl 1], (.int 9)), ([.inl 2, .inl 1, .inl 1, .inl 1, .inl 1], (.int 5)), ([.inl 1, .inl 1, .inl 1, .inl 1, .inl 1, .inl 1], (.int 1))], .lst [(.int 6), (.int 0)], .lst [(.int 5), (.int 1)], .lst [(.int 5), (.int 1), (.int 0)], .lst [(.int 4), (.int 2), (.int 0)], .lst [(.int 4), (.int 1), (.int 1)], .lst [(.int 4), (.int 2), (.int 0)], .lst [(.int 3), (.int 3), (.int 0)], .lst [(.int 3), (.int 2), (.int 1)], .lst [(.int 4), (.int 1), (.int 1), (.int 0)], .lst [(.int 3), (.int 2), (.int 1), (.int 0)], .lst [(.int 3), (.int 1), (.int 2), (.int 0)], .lst [(.int 3), (.int 1), (.int 1), (.int 1)], .lst [(.int 3), (.int 2), (.int 1), (.int 0)], .lst [(.int 2), (.int 3), (.int 1), (.int 0)], .lst [(.int 2), (.int 2), (.int 2), (.int 0)], .lst [(.int 2), (.int 2), (.int 1), (.int 1)], .lst [(.int 3), (.int 1), (.int 1), (.int 1), (.int 0)], .lst [(.int 2), (.int 2), (.int 1), (.int 1), (.int 0)], .lst [(.int 2), (.int 1), (.int 2), (.int 1), (.int 0)], .lst [(.int 2), (.int 1), (.int 1), (.int 2), (.int 0)], .lst [(.int 2), (.int 1), (.int 1), (.int 1), (.int 1)], .lst [(.int 2), (.int 1), (.int 1), (.int 1), (.int 1), (.int 0)], .lst [(.int 1), (.int 2), (.int 1), (.int 1), (.int 1), (.int 0)], .lst [(.int 1), (.int 1), (.int 2), (.int 1), (.int 1), (.int 0)], .lst [(.int 1), (.int 1), (.int 1), (.int 2), (.int 1), (.int 0)], .lst [(.int 1), (.int 1), (.int 1), (.int 1), (.int 2), (.int 0)], .lst [(.int 1), (.int 1), (.int 1), (.int 1), (.int 1), (.int 1)], .dt [([.inl 7], (.int 1)), ([.inl 6, .inl 1], (.int 6)), ([.inl 5, .inl 2], (.int 14)), ([.inl 5, .inl 1, .inl 1], (.int 15)), ([.inl 4, .inl 3], (.int 14)), ([.inl 4, .inl 2, .inl 1], (.int 35)), ([.inl 4, .inl 1, .inl 1, .inl 1], (.int 20)), ([.inl 3, .inl 3, .inl 1], (.int 21)), ([.inl 3, .inl 2, .inl 2], (.int 21)), ([.inl 3, .inl 2, .inl 1, .inl 1], (.int 35)), ([.inl 3, .inl 1, .inl 1, .inl 1, .inl 1], (.int 15)), ([.inl 2, .inl 2, .inl 2, .inl 1], (.int 14)), ([.inl 2, .inl 2, .inl 1, .inl 1, .inl 1], (.int 14)), ([.inl 2, .inl 1, .inl 1, .inl 1, .inl 1, .inl 1], (.int 6)), ([.inl 1, .inl 1, .inl 1, .inl 1, .inl 1, .inl 1, .inl 1], (.int 1))], .lst [(.int 7), (.int 0)], .lst [(.int 6), (.int 1)], .lst [(.int 6), (.int 1), (.int 0)], .lst [(.int 5), (.int 2), (.int 0)], .lst [(.int 5), (.int 1), (.int 1)], .lst [(.int 5), (.int 2), (.int 0)], .lst [(.int 4), (.int 3), (.int 0)], .lst [(.int 4), (.int 2), (.int 1)], .lst [(.int 5), (.int 1), (.int 1), (.int 0)], .lst [(.int 4), (.int 2), (.int 1), (.int 0)], .lst [(.int 4), (.int 1), (.int 2), (.int 0)], .lst [(.int 4), (.int 1), (.int 1), (.int 1)], .lst [(.int 4), (.int 3), (.int 0)], .lst [(.int 3), (.int 4), (.int 0)], .lst [(.int 3), (.int 3), (.int 1)], .lst [(.int 4), (.int 2), (.int 1), (.int 0)], .lst [(.int 3), (.int 3), (.int 1), (.int 0)], .lst [(.int 3), (.int 2), (.int 2), (.int 0)], .lst [(.int 3), (.int 2), (.int 1), (.int 1)], .lst [(.int 4), (.int 1), (.int 1), (.int 1), (.int 0)], .lst [(.int 3), (.int 2), (.int 1), (.int 1), (.int 0)], .lst [(.int 3), (.int 1), (.int 2), (.int 1), (.int 0)], .lst [(.int 3), (.int 1), (.int 1), (.int 2), (.int 0)], .lst [(.int 3), (.int 1), (.int 1), (.int 1), (.int 1)], .lst [(.int 3), (.int 2), (.int 2), (.int 0)], .lst [(.int 2), (.int 3), (.int 2), (.int 0)], .lst [(.int 2), (.int 2), (.int 3), (.int 0)], .lst [(.int 2), (.int 2), (.int 2), (.int 1)], .lst [(.int 3), (.int 2), (.int 1), (.int 1), (.int 0)], .lst [(.int 2), (.int 3), (.int 1), (.int 1), (.int 0)], .lst [(.int 2), (.int 2), (.int 2), (.int 1), (.int 0)], .lst [(.int 2), (.int 2), (.int 1), (.int 2), (.int 0)], .lst [(.int 2), (.int 2), (.int 1), (.int 1), (.int 1)], .lst [(.int 3), (.int 1), (.int 1), (.int 1), (.int 1), (.int 0)], .lst [(.int 2), (.int 2), (.int 1), (.int 1), (.int 1), (.int 0)], .lst [(.int 2), (.int 1), (.int 2), (.int 1), (.int 1), (.int 0)], .lst [(.int 2), (.int 1), (.int 1), (.int 2), (.int 1), (.int 0)], .lst [(.int 2), (.int 1), (.int 1), (.int 1), (.int 2), (.int 0)], .lst [(.int 2), (.int 1), (.int 1), (.int 1), (.int 1), (.int 1)], .lst [(.int 2), (.int 1), (.int 1), (.int 1), (.int 1), (.int 1), (.int 0)], .lst [(.int 1), (.int 2), (.int 1), (.int 1), (.int 1), (.int 1), (.int 0)], .lst [(.int 1), (.int 1), (.int 2), (.int 1), (.int 1), (.int 1), (.int 0)], .lst [(.int 1), (.int 1), (.int 1), (.int 2), (.int 1), (.int 1), (.int 0)], .lst [(.int 1), (.int 1), (.int 1), (.int 1), (.int 2), (.int 1), (.int 0)], .lst [(.int 1), (.int 1), (.int 1), (.int 1), (.int 1), (.int 2), (.int 0)], .lst [(.int 1), (.int 1), (.int 1), (.int 1), (.int 1), (.int 1), (.int 1)]]
def E_7 : List U := [(.tup [(.int 7)]), (.tup [(.int 6), (.int 1)]), (.tup [(.int 5), (.int 2)]), (.tup [(.int 5), (.int 1), (.int 1)]), (.tup [(.int 4), (.int 3)]), (.tup [(.int 4), (.int 2), (.int 1)]), (.tup [(.int 4), (.int 1), (.int 1), (.int 1)]), (.tup [(.int 3), (.int 3), (.int 1)]), (.tup [(.int 3), (.int 2), (.int 2)]), (.tup [(.int 3), (.int 2), (.int 1), (.int 1)]), (.tup [(.int 3), (.int 1), (.int 1), (.int 1), (.int 1)]), (.tup [(.int 2), (.int 2), (.int 2), (.int 1)]), (.tup [(.int 2), (.int 2), (.int 1), (.int 1), (.int 1)]), (.tup [(.int 2), (.int 1), (.int 1), (.int 1), (.int 1), (.int 1)]), (.tup [(.int 1), (.int 1), (.int 1), (.int 1), (.int 1), (.int 1), (.int 1)])]
def p_7 : Nat := 68
def tF_7 : List (List Int × Int) := [([7], 1), ([6, 1], 6), ([5, 2], 14), ([5, 1, 1], 15), ([4, 3], 14), ([4, 2, 1], 35), ([4, 1, 1, 1], 20), ([3, 3, 1], 21), ([3, 2, 2], 21), ([3, 2, 1, 1], 35), ([3, 1, 1, 1, 1], 15), ([2, 2, 2, 1], 14), ([2, 2, 1, 1, 1], 14), ([2, 1, 1, 1, 1, 1], 6), ([1, 1, 1, 1, 1, 1, 1], 1)]
def tH_7 : List (List Int × Int) := [([7], 5040), ([6, 1], 840), ([5, 2], 360), ([5, 1, 1], 336), ([4, 3], 360), ([4, 2, 1], 144), ([4, 1, 1, 1], 252), ([3, 3, 1], 240), ([3, 2, 2], 240), ([3, 2, 1, 1], 144), ([3, 1, 1, 1, 1], 336), ([2, 2, 2, 1], 360), ([2, 2, 1, 1, 1], 360), ([2, 1, 1, 1, 1, 1], 840), ([1, 1, 1, 1, 1, 1, 1], 5040)]
def H_8 : List UO := [.dt [([], (.int 1))], .dt [([.inl 1], (.int 1))], .lst [(.int 1)], .dt [([.inl 2], (.int 1)), ([.inl 1, .inl 1], (.int 1))], .lst [(.int 2), (.int 0)], .lst [(.int 1), (.int 1)], .dt [([.inl 3], (.int 1)), ([.inl 2, .inl 1], (.int 2)), ([.inl 1, .inl 1, .inl 1], (.int 1))], .lst [(.int 3), (.int 0)], .lst [(.int 2), (.int 1)], .lst [(.int 2), (.int 1), (.int 0)], .lst [(.int 1), (.int 2), (.int 0)], .lst [(.int 1), (.int 1), (.int 1)], .dt [([.inl 4], (.int 1)), ([.inl 3, .inl 1], (.int 3)), ([.inl 2, .inl 2], (.int 2)), ([.inl 2, .inl 1, .inl 1], (.int 3)), ([.inl 1, .inl 1, .inl 1, .inl 1], (.int 1))], .lst [(.int 4), (.int 0)], .lst [(.int 3), (.int 1)], .lst [(.int 3), (.int 1), (.int 0)], .lst [(.int 2), (.int 2), (.int 0)], .lst [(.int 2), (.int 1), (.int 1)], .lst [(.int 2), (.int 1), (.int 1), (.int 0)], .lst [(.int 1), (.int 2), (.int 1), (.int 0)], .lst [(.int 1), (.int 1), (.int 2), (.int 0)], .lst [(.int 1), (.int 1), (.int 1), (.int 1)], .dt [([.inl 5], (.int 1)), ([.inl 4, .inl 1], (.int 4)), ([.inl 3, .inl 2], (.int 5)), ([.inl 3, .inl 1, .inl 1], (.int 6)), ([.inl 2, .inl 2, .inl 1], (.int 5)), ([.inl 2, .inl 1, .inl 1, .inl 1], (.int 4)), ([.inl 1, .inl 1, .inl 1, .inl 1, .inl 1], (.int 1))], .lst [(.int 5), (.int 0)], .lst [(.int 4), (.int 1)], .lst [(.int 4), (.int 1), (.int 0)], .lst [(.int 3), (.int 2), (.int 0)], .lst [(.int 3), (.int 1), (.int 1)], .lst [(.int 3), (.int 2), (.int 0)], .lst [(.int 2), (.int 3), (.int 0)], .lst [(.int 2), (.int 2), (.int 1)], .lst [(.int 3), (.int 1), (.int 1), (.int 0)], .lst [(.int 2), (.int 2), (.int 1), (.int 0)], .lst [(.int 2), (.int 1), (.int 2), (.int 0)], .lst [(.int 2), (.int 1), (.int 1), (.int 1)], .lst [(.int 2), (.int 1), (.int 1), (.int 1), (.int 0)], .lst [(.int 1), (.int 2), (.int 1), (.int 1), (.int 0)], .lst [(.int 1), (.int 1), (.int 2), (.int 1), (.int 0)], .lst [(.int 1), (.int 1), (.int 1), (.int 2), (.int 0)], .lst [(.int 1), (.int 1), (.int 1), (.int 1), (.int 1)], .dt [([.inl 6], (.int 1)), ([.inl 5, .inl 1], (.int 5)), ([.inl 4, .inl 2], (.int 9)), ([.inl 4, .inl 1, .inl 1], (.int 10)), ([.inl 3, .inl 3], (.int 5)), ([.inl 3, .inl 2, .inl 1], (.int 16)), ([.inl 3, .inl 1, .inl 1, .inl 1], (.int 10)), ([.inl 2, .inl 2, .inl 2], (.int 5)), ([.inl 2, .inl 2, .inl 1, .inl 1], (.int 9)), ([.inl 2, .inl 1, .inl 1, .inl 1, .inl 1], (.int 5)), ([.inl 1, .inl 1, .inl 1, .inl 1, .inl 1, .inl 1], (.int 1))], .lst [(.int 6), (.int 0)], .lst [(.int 5), (.int 1)], .lst [(.int 5), (.int 1), (.int 0)], .lst [(.int 4), (.int 2), (.int 0)], .lst [(.int 4), (.int 1), (.int 1)], .lst [(.int 4), (.int 2), (.int 0)], .lst [(.int 3), (.int 3), (.int 0)], .lst [(.int 3), (.int 2), (.int 1)], .lst [(.int 4), (.int 1), (.int 1), (.int 0)], .lst [(.int 3), (.int 2), (.int 1), (.int 0)], .lst [(.int 3), (.int 1), (.int 2), (.int 0)], .lst [(.int 3), (.int 1), (.int 1), (.int 1)], .lst [(.int 3), (.int 2), (.int 1), (.int 0)], .lst [(.int 2), (.int 3), (.int 1), (.int 0)], .lst [(.int 2), (.int 2), (.int 2), (.int 0)], .lst [(.int 2), (.int 2), (.int 1), (.int 1)], .lst [(.int 3), (.int 1), (.int 1), (.int 1), (.int 0)], .lst [(.int 2), (.int 2), (.int 1), (.int 1), (.int 0)], .lst [(.int 2), (.int 1), (.int 2), (.int 1), (.int 0)], .lst [(.int 2), (.int 1), (.int 1), (.int 2), (.int 0)], .lst [(.int 2), (.int 1), (.int 1), (.int 1), (.int 1)], .lst [(.int 2), (.int 1), (.int 1), (.int 1), (.int 1), (.int 0)], .lst [(.int 1), (.int 2), (.int 1), (.int 1), (.int 1), (.int 0)], .lst [(.int 1), (.int 1), (.int 2), (.int 1), (.int 1), (.int 0)], .lst [(.int 1), (.int 1), (.int 1), (.int 2), (.int 1), (.int 0)], .lst [(.int 1), (.int 1), (.int 1), (.int 1), (.int 2), (.int 0)], .lst [(.int 1), (.int 1), (.int 1), (.int 1), (.int 1), (.int 1)], .dt [([.inl 7], (.int 1)), ([.inl 6, .inl 1], (.int 6)), ([.inl 5, .inl 2], (.int 14)), ([.inl 5, .inl 1, .inl 1], (.int 15)), ([.inl 4, .inl 3], (.int 14)), ([.inl 4, .inl 2, .inl 1], (.int 35)), ([.inl 4, .inl 1, .inl 1, .inl 1], (.int 20)), ([.inl 3, .inl 3, .inl 1], (.int 21)), ([.inl 3, .inl 2, .inl 2], (.int 21)), ([.inl 3, .inl 2, .inl 1, .inl 1], (.int 35)), ([.inl 3, .inl 1, .inl 1, .inl 1, .inl 1], (.int 15)), ([.inl 2, .inl 2, .inl 2, .inl 1], (.int 14)), ([.inl 2, .inl 2, .inl 1, .inl 1, .inl 1], (.int 14)), ([.inl 2, .inl 1, .inl 1, .inl 1, .inl 1, .inl 1], (.int 6)), ([.inl 1, .inl 1, .inl 1, .inl 1, .inl 1, .inl 1, .inl 1], (.int 1))], .lst [(.int 7), (.int 0)], .lst [(.int 6), (.int 1)], .lst [(.int 6), (.int 1), (.int 0)], .lst [(.int 5), (.int 2), (.int 0)], .lst [(.int 5), (.int 1), (.int 1)], .lst [(.int 5), (.int 2), (.int 0)], .lst [(.int 4), (.int 3), (.int 0)], .lst [(.int 4), (.int 2), (.int 1)], .lst [(.int 5), (.int 1), (.int 1), (.int 0)], .lst [(.int 4), (.int 2), (.int 1), (.int 0)], .lst [(.int 4), (.int 1), (.int 2), (.int 0)], .lst [(.int 4), (.int 1), (.int 1), (.int 1)], .lst [(.int 4), (.int 3), (.int 0)], .lst [(.int 3), (.int 4), (.int 0)], .lst [(.int 3), (.int 3), (.int 1)], .lst [(.int 4), (.int 2), (.int 1), (.int 0)], .lst [(.int 3), (.int 3), (.int 1), (.int 0)], .lst [(.int 3), (.int 2), (.int 2), (.int 0)], .lst [(.int 3), (.int 2), (.int 1), (.int 1)], .lst [(.int 4), (.int 1), (.int 1), (.int 1), (.int 0)], .lst [(.int 3), (.int 2), (.int 1), (.int 1), (.int 0)], .lst [(.int 3), (.int 1), (.int 2), (.int 1), (.int 0)], .lst [(.int 3), (.int 1), (.int 1), (.int 2), (.int 0)], .lst [(.int 3), (.int 1), (.int 1), (.int 1), (.int 1)], .lst [(.int 3), (.int 2), (.int 2), (.int 0)], .lst [(.int 2), (.int 3), (.int 2), (.int 0)], .lst [(.int 2), (.int 2), (.int 3), (.int 0)], .lst [(.int 2), (.int 2), (.int 2), (.int 1)], .lst [(.int 3), (.int 2), (.int 1), (.int 1), (.int 0)], .lst [(.int 2), (.int 3), (.int 1), (.int 1), (.int 0)], .lst [(.int 2), (.int 2), (.int 2), (.int 1), (.int 0)], .lst [(.int 2), (.int 2), (.int 1), (.int 2), (.int 0)], .lst [(.int 2), (.int 2), (.int 1), (.int 1), (.int 1)], .lst [(.int 3), (.int 1), (.int 1), (.int 1), (.int 1), (.int 0)], .lst [(.int 2), (.int 2), (.int 1), (.int 1), (.int 1), (.int 0)], .lst [(.int 2), (.int 1), (.int 2), (.int 1), (.int 1), (.int 0)], .lst [(.int 2), (.int 1), (.int 1), (.int 2), (.int 1), (.int 0)], .lst [(.int 2), (.int 1), (.int 1), (.int 1), (.int 2), (.int 0)], .lst [(.int 2), (.int 1), (.int 1), (.int 1), (.int 1), (.int 1)], .lst [(.int 2), (.int 1), (.int 1), (.int 1), (.int 1), (.int 1), (.int 0)], .lst [(.int 1), (.int 2), (.int 1), (.int 1), (.int 1), (.int 1), (.int 0)], .lst [(.int 1), (.int 1), (.int 2), (.int 1), (.int 1), (.int 1), (.int 0)], .lst [(.int 1), (.int 1), (.int 1), (.int 2), (.int 1), (.int 1), (.int 0)], .lst [(.int 1), (.int 1), (.int 1), (.int 1), (.int 2), (.int 1), (.int 0)], .lst [(.int 1), (.int 1), (.int 1), (.int 1), (.int 1), (.int 2), (.int 0)], .lst [(.int 1), (.int 1), (.int 1), (.int 1), (.int 1), (.int 1), (.int 1)], .dt [([.inl 8], (.int 1)), ([.inl 7, .inl 1], (.int 7)), ([.inl 6, .inl 2], (.int 20)), ([.inl 6, .inl 1, .inl 1], (.int 21)), ([.inl 5, .inl 3], (.int 28)), ([.inl 5, .inl 2, .inl 1], (.int 64)), ([.inl 5, .inl 1, .inl 1, .inl 1], (.int 35)), ([.inl 4, .inl 4], (.int 14)), ([.inl 4, .inl 3, .inl 1], (.int 70)), ([.inl 4, .inl 2, .inl 2], (.int 56)), ([.inl 4, .inl 2, .inl 1, .inl 1], (.int 90)), ([.inl 4, .inl 1, .inl 1, .inl 1, .inl 1], (.int 35)), ([.inl 3, .inl 3, .inl 2], (.int 42)), ([.inl 3, .inl 3, .inl 1, .inl 1], (.int 56)), ([.inl 3, .inl 2, .inl 2, .inl 1], (.int 70)), ([.inl 3, .inl 2, .inl 1, .inl 1, .inl 1], (.int 64)), ([.inl 3, .inl 1, .inl 1, .inl 1, .inl 1, .inl 1], (.int 21)), ([.inl 2, .inl 2, .inl 2, .inl 2], (.int 14)), ([.inl 2, .inl 2, .inl 2, .inl 1, .inl 1], (.int 28)), ([.inl 2, .inl 2, .inl 1, .inl 1, .inl 1, .inl 1], (.int 20)), ([.inl 2, .inl 1, .inl 1, .inl 1, .inl 1, .inl 1, .inl 1], (.int 7)), ([.inl 1, .inl 1, .inl 1, .inl 1, .inl 1, .inl 1, .inl 1, .inl 1], (.int 1))], .lst [(.int 8), (.int 0)], .lst [(.int 7), (.int 1)], .lst [(.int 7), (.int 1), (.int 0)], .lst [(.int 6), (.int 2), (.int 0)], .lst [(.int 6), (.int 1), (.int 1)], .lst [(.int 6), (.int 2), (.int 0)], .lst [(.int 5), (.int 3), (.int 0)], .lst [(.int 5), (.int 2), (.int 1)], .lst [(.int 6), (.int 1), (.int 1), (.int 0)], .lst [(.int 5), (.int 2), (.int 1), (.int 0)], .lst [(.int 5), (.int 1), (.int 2), (.int 0)], .lst [(.int 5), (.int 1), (.int 1), (.int 1)], .lst [(.int 5), (.int 3), (.int 0)], .lst [(.int 4), (.int 4), (.int 0)], .lst [(.int 4), (.int 3), (.int 1)], .lst [(.int 5), (.int 2), (.int 1), (.int 0)], .lst [(.int 4), (.int 3), (.int 1), (.int 0)], .lst [(.int 4), (.int 2), (.int 2), (.int 0)], .lst [(.int 4), (.int 2), (.int 1), (.int 1)], .lst [(.int 5), (.int 1), (.int 1), (.int 1), (.int 0)], .lst [(.int 4), (.int 2), (.int 1), (.int 1), (.int 0)], .lst [(.int 4), (.int 1), (.int 2), (.int 1), (.int 0)], .lst [(.int 4), (.int 1), (.int 1), (.int 2), (.int 0)], .lst [(.int 4), (.int 1), (.int 1), (.int 1), (.int 1)], .lst [(.int 4), (.int 3), (.int 1), (.int 0)], .lst [(.int 3), (.int 4), (.int 1), (.int 0)], .lst [(.int 3), (.int 3), (.int 2), (.int 0)], .lst [(.int 3), (.int 3), (.int 1), (.int 1)], .lst [(.int 4), (.int 2), (.int 2), (.int 0)], .lst [(.int 3), (.int 3), (.int 2), (.int 0)], .lst [(.int 3), (.int 2), (.int 3), (.int 0)], .lst [(.int 3), (.int 2), (.int 2), (.int 1)], .lst [(.int 4), (.int 2), (.int 1), (.int 1), (.int 0)], .lst [(.int 3), (.int 3), (.int 1), (.int 1), (.int 0)], .lst [(.int 3), (.int 2), (.int 2), (.int 1), (.int 0)], .lst [(.int 3), (.int 2), (.int 1), (.int 2), (.int 0)], .lst [(.int 3), (.int 2), (.int 1), (.int 1), (.int 1)], .lst [(.int 4), (.int 1), (.int 1), (.int 1), (.int 1), (.int 0)], .lst [(.int 3), (.int 2), (.int 1), (.int 1), (.int 1), (.int 0)], .lst [(.int 3), (.int 1), (.int 2), (.int 1), (.int 1), (.int 0)], .lst [(.int 3), (.int 1), (.int 1), (.int 2), (.int 1), (.int 0)], .lst [(.int 3), (.int 1), (.int 1), (.int 1), (.int 2), (.int 0)], .lst [(.int 3), (.int 1), (.int 1), (.int 1), (.int 1), (.int 1)], .lst [(.int 3), (.int 2), (.int 2), (.int 1), (.int 0)], .lst [(.int 2), (.int 3), (.int 2), (.int 1), (.int 0)], .lst [(.int 2), (.int 2), (.int 3), (.int 1), (.int 0)], .lst [(.int 2), (.int 2), (.int 2), (.int 2), (.int 0)], .lst [(.int 2), (.int 2), (.int 2), (.int 1), (.int 1)], .lst [(.int 3), (.int 2), (.int 1), (.int 1), (.int 1), (.int 0)], .lst [(.int 2), (.int 3), (.int 1), (.int 1), (.int 1), (.int 0)], .lst [(.int 2), (.int 2), (.int 2), (.int 1), (.int 1), (.int 0)], .lst [(.int 2), (.int 2), (.int 1), (.int 2), (.int 1), (.int 0)], .lst [(.int 2), (.int 2), (.int 1), (.int 1), (.int 2), (.int 0)], .lst [(.int 2), (.int 2), (.int 1), (.int 1), (.int 1), (.int 1)], .lst [(.int 3), (.int 1), (.int 1), (.int 1), (.int 1), (.int 1), (.int 0)], .lst [(.int 2), (.int 2), (.int 1), (.int 1), (.int 1), (.int 1), (.int 0)], .lst [(.int 2), (.int 1), (.int 2), (.int 1), (.int 1), (.int 1), (.int 0)], .lst [(.int 2), (.int 1), (.int 1), (.int 2), (.int 1), (.int 1), (.int 0)], .lst [(.int 2), (.int 1), (.int 1), (.int 1), (.int 2), (.int 1), (.int 0)], .lst [(.int 2), (.int 1), (.int 1), (.int 1), (.int 1), (.int 2), (.int 0)], .lst [(.int 2), (.int 1), (.int 1), (.int 1), (.int 1), (.int 1), (.int 1)], .lst [(.int 2), (.int 1), (.int 1), (.int 1), (.int 1), (.int 1), (.int 1), (.int 0)], .lst [(.int 1), (.int 2), (.int 1), (.int 1), (.int 1), (.int 1), (.int 1), (.int 0)], .lst [(.int 1), (.int 1), (.int 2), (.int 1), (.int 1), (.int 1), (.int 1), (.int 0)], .lst [(.int 1), (.int 1), (.int 1), (.int 2), (.int 1), (.int 1), (.int 1), (.int 0)], .lst [(.int 1), (.int 1), (.int 1), (.int 1), (.int 2), (.int 1), (.int 1), (.int 0)], .lst [(.int 1), (.int 1), (.int 1), (.int 1), (.int 1), (.int 2), (.int 1), (.int 0)], .lst [(.int 1), (.int 1), (.int 1), (.int 1), (.int 1), (.int 1), (.int 2), (.int 0)], .lst [(.int 1), (.int 1), (.int 1), (.int 1), (.int 1), (.int 1), (.int 1), (.int 1)]]
def E_8 : List U := [(.tup [(.int 8)]), (.tup [(.int 7), (.int 1)]), (.tup [(.int 6), (.int 2)]), (.tup [(.int 6), (.int 1), (.int 1)]), (.tup [(.int 5), (.int 3)]), (.tup [(.int 5), (.int 2), (.int 1)]), (.tup [(.int 5), (.int 1), (.int 1), (.int 1)]), (.tup [(.int 4), (.int 4)]), (.tup [(.int 4), (.int 3), (.int 1)]), (.tup [(.int 4), (.int 2), (.int 2)]), (.tup [(.int 4), (.int 2), (.int 1), (.int 1)]), (.tup [(.int 4), (.int 1), (.int 1), (.int 1), (.int 1)]), (.tup [(.int 3), (.int 3), (.int 2)]), (.tup [(.int 3), (.int 3), (.int 1), (.int 1)]), (.tup [(.int 3), (.int 2), (.int 2), (.int 1)]), (.tup [(.int 3), (.int 2), (.int 1), (.int 1), (.int 1)]), (.tup [(.int 3), (.int 1), (.int 1), (.int 1), (.int 1), (.int 1)]), (.tup [(.int 2), (.int 2), (.int 2), (.int 2)]), (.tup [(.int 2), (.int 2), (.int 2), (.int 1), (.int 1)]), (.tup [(.int 2), (.int 2), (.int 1), (.int 1), (.int 1), (.int 1)]), (.tup [(.int 2), (.int 1), (.int 1), (.int 1), (.int 1), (.int 1), (.int 1)]), (.tup [(.int 1), (.int 1), (.int 1), (.int 1), (.int 1), (.int 1), (.int 1), (.int 1)])]
def p_8 : Nat := 115
def tF_8 : List (List Int × Int) := [([8], 1), ([7, 1], 7), ([6, 2], 20), ([6, 1, 1], 21), ([5, 3], 28), ([5, 2, 1], 64), ([5, 1, 1, 1], 35), ([4, 4], 14), ([4, 3, 1], 70), ([4, 2, 2], 56), ([4, 2, 1, 1], 90), ([4, 1, 1, 1, 1], 35), ([3, 3, 2], 42), ([3, 3, 1, 1], 56), ([3, 2, 2, 1], 70), ([3, 2, 1, 1, 1], 64), ([3, 1, 1, 1, 1, 1], 21), ([2, 2, 2, 2], 14), ([2, 2, 2, 1, 1], 28), ([2, 2, 1, 1, 1, 1], 20), ([2, 1, 1, 1, 1, 1, 1], 7), ([1, 1, 1, 1, 1, 1, 1, 1], 1)]
def tH_8 : List (List Int × Int) := [([8], 40320), ([7, 1], 5760), ([6, 2], 2016), ([6, 1, 1], 1920), ([5, 3], 1440), ([5, 2, 1], 630), ([5, 1, 1, 1], 1152), ([4, 4], 2880), ([4, 3, 1], 576), ([4, 2, 2], 720), ([4, 2, 1, 1], 448), ([4, 1, 1, 1, 1], 1152), ([3, 3, 2], 960), ([3, 3, 1, 1], 720), ([3, 2, 2, 1], 576), ([3, 2, 1, 1, 1], 630), ([3, 1, 1, 1, 1, 1], 1920), ([2, 2, 2, 2], 2880), ([2, 2, 2, 1, 1], 1440), ([2, 2, 1, 1, 1, 1], 2016), ([2, 1, 1, 1, 1, 1, 1], 5760), ([1, 1, 1, 1, 1, 1, 1, 1], 40320)]
def H_9 : List UO := [.dt [([], (.int 1))], .dt [([.inl 1], (.int 1))], .lst [(.int 1)], .dt [([.inl 2], (.int 1)), ([.inl 1, .inl 1], (.int 1))], .lst [(.int 2), (.int 0)], .lst [(.int 1), (.int 1)], .dt [([.inl 3], (.int 1)), ([.inl 2, .inl 1], (.int 2)), ([.inl 1, .inl 1, .inl 1], (.int 1))], .lst [(.int 3), (.int 0)], .lst [(.int 2), (.int 1)], .lst [(.int 2), (.int 1), (.int 0)], .lst [(.int 1), (.int 2), (.int 0)], .lst [(.int 1), (.int 1), (.int 1)], .dt [([.inl 4], (.int 1)), ([.inl 3, .inl 1], (.int 3)), ([.inl 2, .inl 2], (.int 2)), ([.inl 2, .inl 1, .inl 1], (.int 3)), ([.inl 1, .inl 1, .inl 1, .inl 1], (.int 1))], .lst [(.int 4), (.int 0)], .lst [(.int 3), (.int 1)], .lst [(.int 3), (.int 1), (.int 0)], .lst [(.int 2), (.int 2), (.int 0)], .lst [(.int 2), (.int 1), (.int 1)], .lst [(.int 2), (.int 1), (.int 1), (.int 0)], .lst [(.int 1), (.int 2), (.int 1), (.int 0)], .lst [(.int 1), (.int 1), (.int 2), (.int 0)], .lst [(.int 1), (.int 1), (.int 1), (.int 1)], .dt [([.inl 5], (.int 1)), ([.inl 4, .inl 1], (.int 4)), ([.inl 3, .inl 2], (.int 5)), ([.inl 3, .inl 1, .inl 1], (.int 6)), ([.inl 2, .inl 2, .inl 1], (.int 5)), ([.inl 2, .inl 1, .inl 1, .inl 1], (.int 4)), ([.inl 1, .inl 1, .inl 1, .inl 1, .inl 1], (.int 1))], .lst [(.int 5), (.int 0)], .lst [(.int 4), (.int 1)], .lst [(.int 4), (.int 1), (.int 0)], .lst [(.int 3), (.int 2), (.int 0)], .lst [(.int 3), (.int 1), (.int 1)], .lst [(.int 3), (.int 2), (.int 0)], .lst [(.int 2), (.int 3), (.int 0)], .lst [(.int 2), (.int 2), (.int 1)], .lst [(.int 3), (.int 1), (.int 1), (.int 0)], .lst [(.int 2), (.int 2), (.int 1), (.int 0)], .lst [(.int 2), (.int 1), (.int 2), (.int 0)], .lst [(.int 2), (.int 1), (.int 1), (.int 1)], .lst [(.int 2), (.int 1), (.int 1), (.int 1), (.int 0)], .lst [(.int 1), (.int 2), (.int 1), (.int 1), (.int 0)], .lst [(.int 1), (.int 1), (.int 2), (.int 1), (.int 0)], .lst [(.int 1), (.int 1), (.int 1), (.int 2), (.int 0)], .lst [(.int 1), (.int 1), (.int 1), (.int 1), (.int 1)], .dt [([.inl 6], (.int 1)), ([.inl 5, .inl 1], (.int 5)), ([.inl 4, .inl 2], (.int 9)), ([.inl 4, .inl 1, .inl 1], (.int 10)), ([.inl 3, .inl 3], (.int 5)), ([.inl 3, .inl 2, .inl 1], (.int 16)), ([.inl 3, .inl 1, .inl 1, .inl 1], (.int 10)), ([.inl 2, .inl 2, .inl 2], (.int 5)), ([.inl 2, .inl 2, .inl 1, .inl 1], (.int 9)), ([.inl 2, .inl 1, .inl 1, .inl 1, .inl 1], (.int 5)), ([.inl 1, .inl 1, .inl 1, .inl 1, .inl 1, .inl 1], (.int 1))], .lst [(.int 6), (.int 0)], .lst [(.int 5), (.int 1)], .lst [(.int 5), (.int 1), (.int 0)], .lst [(.int 4), (.int 2), (.int 0)], .lst [(.int 4), (.int 1), (.int 1)], .lst [(.int 4), (.int 2), (.int 0)], .lst [(.int 3), (.int 3), (.int 0)], .lst [(.int 3), (.int 2), (.int 1)], .lst [(.int 4), (.int 1), (.int 1), (.int 0)], .lst [(.int 3), (.int 2), (.int 1), (.int 0)], .lst [(.int 3), (.int 1), (.int 2), (.int 0)], .lst [(.int 3), (.int 1), (.int 1), (.int 1)], .lst [(.int 3), (.int 2), (.int 1), (.int 0)], .lst [(.int 2), (.int 3), (.int 1), (.int 0)], .lst [(.int 2), (.int 2), (.int 2), (.int 0)], .lst [(.int 2), (.int 2), (.int 1), (.int 1)], .lst [(.int 3), (.int 1), (.int 1), (.int 1), (.int 0)], .lst [(.int 2), (.int 2), (.int 1), (.int 1), (.int 0)], .lst [(.int 2), (.int 1), (.int 2), (.int 1), (.int 0)], .lst [(.int 2), (.int 1), (.int 1), (.int 2), (.int 0)], .lst [(.int 2), (.int 1), (.int 1), (.int 1), (.int 1)], .lst [(.int 2), (.int 1), (.int 1), (.int 1), (.int 1), (.int 0)], .lst [(.int 1), (.int 2), (.int 1), (.int 1), (.int 1), (.int 0)], .lst [(.int 1), (.int 1), (.int 2), (.int 1), (.int 1), (.int 0)], .lst [(.int 1), (.int 1), (.int 1), (.int 2), (.int 1), (.int 0)], .lst [(.int 1), (.int 1), (.int 1), (.int 1), (.int 2), (.int 0)], .lst [(.int 1), (.int 1), (.int 1), (.int 1), (.int 1), (.int 1)], .dt [([.inl 7], (.int 1)), ([.inl 6, .inl 1], (.int 6)), ([.inl 5, .inl 2], (.int 14)), ([.inl 5, .inl 1, .inl 1], (.int 15)), ([.inl 4, .inl 3], (.int 14)), ([.inl 4, .inl 2, .inl 1], (.int 35)), ([.inl 4, .inl 1, .inl 1, .inl 1], (.int 20)), ([.inl 3, .inl 3, .inl 1], (.int 21)), ([.inl 3, .inl 2, .inl 2], (.int 21)), ([.inl 3, .inl 2, .inl 1, .inl 1], (.int 35)), ([.inl 3, .inl 1, .inl 1, .inl 1, .inl 1], (.int 15)), ([.inl 2, .inl 2, .inl 2, .inl 1], (.int 14)), ([.inl 2, .inl 2, .inl 1, .inl 1, .inl 1], (.int 14)), ([.inl 2, .inl 1, .inl 1, .inl 1, .inl 1, .inl 1], (.int 6)), ([.inl 1, .inl 1, .inl 1, .inl 1, .inl 1, .inl 1, .inl 1], (.int 1))], .lst [(.int 7), (.int 0)], .lst [(.int 6), (.int 1)], .lst [(.int 6), (.int 1), (.int 0)], .lst [(.int 5), (.int 2), (.int 0)], .lst [(.int 5), (.int 1), (.int 1)], .lst [(.int 5), (.int 2), (.int 0)], .lst [(.int 4), (.int 3), (.int 0)], .lst [(.int 4), (.int 2), (.int 1)], .lst [(.int 5), (.int 1), (.int 1), (.int 0)], .lst [(.int 4), (.int 2), (.int 1), (.int 0)], .lst [(.int 4), (.int 1), (.int 2), (.int 0)], .lst [(.int 4), (.int 1), (.int 1), (.int 1)], .lst [(.int 4), (.int 3), (.int 0)], .lst [(.int 3), (.int 4), (.int 0)], .lst [(.int 3), (.int 3), (.int 1)], .lst [(.int 4), (.int 2), (.int 1), (.int 0)], .lst [(.int 3), (.int 3), (.int 1), (.int 0)], .lst [(.int 3), (.int 2), (.int 2), (.int 0)], .lst [(.int 3), (.int 2), (.int 1), (.int 1)], .lst [(.int 4), (.int 1), (.int 1), (.int 1), (.int 0)], .lst [(.int 3), (.int 2), (.int 1), (.int 1), (.int 0)], .lst [(.int 3), (.int 1), (.int 2), (.int 1), (.int 0)], .lst [(.int 3), (.int 1), (.int 1), (.int 2), (.int 0)], .lst [(.int 3), (.int 1), (.int 1), (.int 1), (.int 1)], .lst [(.int 3), (.int 2), (.int 2), (.int 0)], .lst [(.int 2), (.int 3), (.int 2), (.int 0)], .lst [(.int 2), (.int 2), (.int 3), (.int 0)], .lst [(.int 2), (.int 2), (.int 2), (.int 1)], .lst [(.int 3), (.int 2), (.int 1), (.int 1), (.int 0)], .lst [(.int 2), (.int 3), (.int 1), (.int 1), (.int 0)], .lst [(.int 2), (.int 2), (.int 2), (.int 1), (.int 0)], .lst [(.int 2), (.int 2), (.int 1), (.int 2), (.int 0)], .lst [(.int 2), (.int 2), (.int 1), (.int 1), (.int 1)], .lst [(.int 3), (.int 1), (.int 1), (.int 1), (.int 1), (.int 0)], .lst [(.int 2), (.int 2), (.int 1), (.int 1), (.int 1), (.int 0)], .lst [(.int 2), (.int 1), (.int 2), (.int 1), (.int 1), (.int 0)], .lst [(.int 2), (.int 1), (.int 1), (.int 2), (.int 1), (.int 0)], .lst [(.int 2), (.int 1), (.int 1), (.int 1), (.int 2), (.int 0)], .lst [(.int 2), (.int 1), (.int 1), (.int 1), (.int 1), (.int 1)], .lst [(.int 2), (.int 1), (.int 1), (.int 1), (.int 1), (.int 1), (.int 0)], .lst [(.int 1), (.int 2), (.int 1), (.int 1), (.int 1), (.int 1), (.int 0)], .lst [(.int 1), (.int 1), (.int 2), (.int 1), (.int 1), (.int 1), (.int 0)], .lst [(.int 1), (.int 1), (.int 1), (.int 2), (.int 1), (.int 1), (.int 0)], .lst [(.int 1), (.int 1), (.int 1), (.int 1), (.int 2), (.int 1), (.int 0)], .lst [(.int 1), (.int 1), (.int 1), (.int 1), (.int 1), (.int 2), (.int 0)], .lst [(.int 1), (.int 1), (.int 1), (.int 1), (.int 1), (.int 1), (.int 1)], .dt [([.inl 8], (.int 1)), ([.inl 7, .inl 1], (.int 7)), ([.inl 6, .inl 2], (.int 20)), ([.inl 6, .inl 1, .inl 1], (.int 21)), ([.inl 5, .inl 3], (.int 28)), ([.inl 5, .inl 2, .inl 1], (.int 64)), ([.inl 5, .inl 1, .inl 1, .inl 1], (.int 35)), ([.inl 4, .inl 4], (.int 14)), ([.inl 4, .inl 3, .inl 1], (.int 70)), ([.inl 4, .inl 2, .inl 2], (.int 56)), ([.inl 4, .inl 2, .inl 1, .inl 1], (.int 90)), ([.inl 4, .inl 1, .inl 1, .inl 1, .inl 1], (.int 35)), ([.inl 3, .inl 3, .inl 2], (.int 42)), ([.inl 3, .inl 3, .inl 1, .inl 1], (.int 56)), ([.inl 3, .inl 2, .inl 2, .inl 1], (.int 70)), ([.inl 3, .inl 2, .inl 1, .inl 1, .inl 1], (.int 64)), ([.inl 3, .inl 1, .inl 1, .inl 1, .inl 1, .inl 1], (.int 21)), ([.inl 2, .inl 2, .inl 2, .inl 2], (.int 14)), ([.inl 2, .inl 2, .inl 2, .inl 1, .inl 1], (.int 28)), ([.inl 2, .inl 2, .inl 1, .inl 1, .inl 1, .inl 1], (.int 20)), ([.inl 2, .inl 1, .inl 1, .inl 1, .inl 1, .inl 1, .inl 1], (.int 7)), ([.inl 1, .inl 1, .inl 1, .inl 1, .inl 1, .inl 1, .inl 1, .inl 1], (.int 1))], .lst [(.int 8), (.int 0)], .lst [(.int 7), (.int 1)], .lst [(.int 7), (.int 1), (.int 0)], .lst [(.int 6), (.int 2), (.int 0)], .lst [(.int 6), (.int 1), (.int 1)], .lst [(.int 6), (.int 2), (.int 0)], .lst [(.int 5), (.int 3), (.int 0)], .lst [(.int 5), (.int 2), (.int 1)], .lst [(.int 6), (.int 1), (.int 1), (.int 0)], .lst [(.int 5), (.int 2), (.int 1), (.int 0)], .lst [(.int 5), (.int 1), (.int 2), (.int 0)], .lst [(.int 5), (.int 1), (.int 1), (.int 1)], .lst [(.int 5), (.int 3), (.int 0)], .lst [(.int 4), (.int 4), (.int 0)], .lst [(.int 4), (.int 3), (.int 1)], .lst [(.int 5), (.int 2), (.int 1), (.int 0)], .lst [(.int 4), (.int 3), (.int 1), (.int 0)], .lst [(.int 4), (.int 2), (.int 2), (.int 0)], .lst [(.int 4), (.int 2), (.int 1), (.int 1)], .lst [(.int 5), (.int 1), (.int 1), (.int 1), (.int 0)], .lst [(.int 4), (.int 2), (.int 1), (.int 1), (.int 0)], .lst [(.int 4), (.int 1), (.int 2), (.int 1), (.int 0)], .lst [(.int 4), (.int 1), (.int 1), (.int 2), (.int 0)], .lst [(.int 4), (.int 1), (.int 1), (.int 1), (.int 1)], .lst [(.int 4), (.int 3), (.int 1), (.int 0)], .lst [(.int 3), (.int 4), (.int 1), (.int 0)], .lst [(.int 3), (.int 3), (.int 2), (.int 0)], .lst [(.int 3), (.int 3), (.int 1), (.int 1)], .lst [(.int 4), (.int 2), (.int 2), (.int 0)], .lst [(.int 3), (.int 3), (.int 2), (.int 0)], .lst [(.int 3), (.int 2), (.int 3), (.int 0)], .lst [(.int 3), (.int 2), (.int 2), (.int 1)], .lst [(.int 4), (.int 2), (.int 1), (.int 1), (.int 0)], .lst [(.int 3), (.int 3), (.int 1), (.int 1), (.int 0)], .lst [(.int 3), (.int 2), (.int 2), (.int 1), (.int 0)], .lst [(.int 3), (.int 2), (.int 1), (.int 2), (.int 0)], .lst [(.int 3), (.int 2), (.int 1), (.int 1), (.int 1)], .lst [(.int 4), (.int 1), (.int 1), (.int 1), (.int 1), (.int 0)], .lst [(.int 3), (.int 2), (.int 1), (.int 1), (.int 1), (.int 0)], .lst [(.int 3), (.int 1), (.int 2), (.int 1), (.int 1), (.int 0)], .lst [(.int 3), (.int 1), (.int 1), (.int 2), (.int 1), (.int 0)], .lst [(.int 3), (.int 1), (.int 1), (.int 1), (.int 2), (.int 0)], .lst [(.int 3), (.int 1), (.int 1), (.int 1), (.int 1), (.int 1)], .lst [(.int 3), (.int 2), (.int 2), (.int 1), (.int 0)], .lst [(.int 2), (.int 3), (.int 2), (.int 1), (.int 0)], .lst [(.int 2), (.int 2), (.int 3), (.int 1), (.int 0)], .lst [(.int 2), (.int 2), (.int 2), (.int 2), (.int 0)], .lst [(.int 2), (.int 2), (.int 2), (.int 1), (.int 1)], .lst [(.int 3), (.int 2), (.int 1), (.int 1), (.int 1), (.int 0)], .lst [(.int 2), (.int 3), (.int 1), (.int 1), (.int 1), (.int 0)], .lst [(.int 2), (.int 2), (.int 2), (.int 1), (.int 1), (.int 0)], .lst [(.int 2), (.int 2), (.int 1), (.int 2), (.int 1), (.int 0)], .lst [(.int 2), (.int 2), (.int 1), (.int 1), (.int 2), (.int 0)], .lst [(.int 2), (.int 2), (.int 1), (.int 1), (.int 1), (.int 1)], .lst [(.int 3), (.int 1), (.int 1), (.int 1), (.int 1), (.int 1), (.int 0)], .lst [(.int 2), (.int 2), (.int 1), (.int 1), (.int 1), (.int 1), (.int 0)], .lst [(.int 2), (.int 1), (.int 2), (.int 1), (.int 1), (.int 1), (.int 0)], .lst [(.int 2), (.int 1), (.int 1), (.int 2), (.int 1), (.int 1), (.int 0)], .lst [(.int 2), (.int 1), (.int 1), (.int 1), (.int 2), (.int 1), (.int 0)], .lst [(.int 2), (.int 1), (.int 1), (.int 1), (.int 1), (.int 2), (.int 0)], .lst [(.int 2), (.int 1), (.int 1), (.int 1), (.int 1), (.int 1), (.int 1)], .lst [(.int 2), (.int 1), (.int 1), (.int 1), (.int 1), (.int 1), (.int 1), (.int 0)], .lst [(.int 1), (.int 2), (.int 1), (.int 1), (.int 1), (.int 1), (.int 1), (.int 0)], .lst [(.int 1), (.int 1), (.int 2), (.int 1), (.int 1), (.int 1), (.int 1), (.int 0)], .lst [(.int 1), (.int 1), (.int 1), (.int 2), (.int 1), (.int 1), (.int 1), (.int 0)], .lst [(.int 1), (.int 1), (.int 1), (.int 1), (.int 2), (.int 1), (.int 1), (.int 0)], .lst [(.int 1), (.int 1), (.int 1), (.int 1), (.int 1), (.int 2), (.int 1), (.int 0)], .lst [(.int 1), (.int 1), (.int 1), (.int 1), (.int 1), (.int 1), (.int 2), (.int 0)], .lst [(.int 1), (.int 1), (.int 1), (.int 1), (.int 1), (.int 1), (.int 1), (.int 1)], .dt [([.inl 9], (.int 1)), ([.inl 8, .inl 1], (.int 8)), ([.inl 7, .inl 2], (.int 27)), ([.inl 7, .inl 1, .inl 1], (.int 28)), ([.inl 6, .inl 3], (.int 48)), ([.inl 6, .inl 2, .inl 1], (.int 105)), ([.inl 6, .inl 1, .inl 1, .inl 1], (.int 56)), ([.inl 5, .inl 4], (.int 42)), ([.inl 5, .inl 3, .inl 1], (.int 162)), ([.inl 5, .inl 2, .inl 2], (.int 120)), ([.inl 5, .inl 2, .inl 1, .inl 1], (.int 189)), ([.inl 5, .inl 1, .inl 1, .inl 1, .inl 1], (.int 70)), ([.inl 4, .inl 4, .inl 1], (.int 84)), ([.inl 4, .inl 3, .inl 2], (.int 168)), ([.inl 4, .inl 3, .inl 1, .inl 1], (.int 216)), ([.inl 4, .inl 2, .inl 2, .inl 1], (.int 216)), ([.inl 4, .inl 2, .inl 1, .inl 1, .inl 1], (.int 189)), ([.inl 4, .inl 1, .inl 1, .inl 1, .inl 1, .inl 1], (.int 56)), ([.inl 3, .inl 3, .inl 3], (.int 42)), ([.inl 3, .inl 3, .inl 2, .inl 1], (.int 168)), ([.inl 3, .inl 3, .inl 1, .inl 1, .inl 1], (.int 120)), ([.inl 3, .inl 2, .inl 2, .inl 2], (.int 84)), ([.inl 3, .inl 2, .inl 2, .inl 1, .inl 1], (.int 162)), ([.inl 3, .inl 2, .inl 1, .inl 1, .inl 1, .inl 1], (.int 105)), ([.inl 3, .inl 1, .inl 1, .inl 1, .inl 1, .inl 1, .inl 1], (.int 28)), ([.inl 2, .inl 2, .inl 2, .inl 2, .inl 1], (.int 42)), ([.inl 2, .inl 2, .inl 2, .inl 1, .inl 1, .inl 1], (.int 48)), ([.inl 2, .inl 2, .inl 1, .inl 1, .inl 1, .inl 1, .inl 1], (.int 27)), ([.inl 2, .inl 1, .inl 1, .inl 1, .inl 1, .inl 1, .inl 1, .inl 1], (.int 8)), ([.inl 1, .inl 1, .inl 1, .inl 1, .inl 1, .inl 1, .inl 1, .inl 1, .inl 1], (.int 1))], .lst [(.int 9), (.int 0)], .lst [(.int 8), (.int 1)], .lst [(.int 8), (.int 1), (.int 0)], .lst [(.int 7), (.int 2), (.int 0)], .lst [(.int 7), (.int 1), (.int 1)], .lst [(.int 7), (.int 2), (.int 0)], .lst [(.int 6), (.int 3), (.int 0)], .lst [(.int 6), (.int 2), (.int 1)], .lst [(.int 7), (.int 1), (.int 1), (.int 0)], .lst [(.int 6), (.int 2), (.int 1), (.int 0)], .lst [(.int 6), (.int 1), (.int 2), (.int 0)], .lst [(.int 6), (.int 1), (.int 1), (.int 1)], .lst [(.int 6), (.int 3), (.int 0)], .lst [(.int 5), (.int 4), (.int 0)], .lst [(.int 5), (.int 3), (.int 1)], .lst [(.int 6), (.int 2), (.int 1), (.int 0)], .lst [(.int 5), (.int 3), (.int 1), (.int 0)], .lst [(.int 5), (.int 2), (.int 2), (.int 0)], .lst [(.int 5), (.int 2), (.int 1), (.int 1)], .lst [(.int 6), (.int 1), (.int 1), (.int 1), (.int 0)], .lst [(.int 5), (.int 2), (.int 1), (.int 1), (.int 0)], .lst [(.int 5), (.int 1), (.int 2), (.int 1), (.int 0)], .lst [(.int 5), (.int 1), (.int 1), (.int 2), (.int 0)], .lst [(.int 5), (.int 1), (.int 1), (.int 1), (.int 1)], .lst [(.int 5), (.int 4), (.int 0)], .lst [(.int 4), (.int 5), (.int 0)], .lst [(.int 4), (.int 4), (.int 1)], .lst [(.int 5), (.int 3), (.int 1), (.int 0)], .lst [(.int 4), (.int 4), (.int 1), (.int 0)], .lst [(.int 4), (.int 3), (.int 2), (.int 0)], .lst [(.int 4), (.int 3), (.int 1), (.int 1)], .lst [(.int 5), (.int 2), (.int 2), (.int 0)], .lst [(.int 4), (.int 3), (.int 2), (.int 0)], .lst [(.int 4), (.int 2), (.int 3), (.int 0)], .lst [(.int 4), (.int 2), (.int 2), (.int 1)], .lst [(.int 5), (.int 2), (.int 1), (.int 1), (.int 0)], .lst [(.int 4), (.int 3), (.int 1), (.int 1), (.int 0)], .lst [(.int 4), (.int 2), (.int 2), (.int 1), (.int 0)], .lst [(.int 4), (.int 2), (.int 1), (.int 2), (.int 0)], .lst [(.int 4), (.int 2), (.int 1), (.int 1), (.int 1)], .lst [(.int 5), (.int 1), (.int 1), (.int 1), (.int 1), (.int 0)], .lst [(.int 4), (.int 2), (.int 1), (.int 1), (.int 1), (.int 0)], .lst [(.int 4), (.int 1), (.int 2), (.int 1), (.int 1), (.int 0)], .lst [(.int 4), (.int 1), (.int 1), (.int 2), (.int 1), (.int 0)], .lst [(.int 4), (.int 1), (.int 1), (.int 1), (.int 2), (.int 0)], .lst [(.int 4), (.int 1), (.int 1), (.int 1), (.int 1), (.int 1)], .lst [(.int 4), (.int 3), (.int 2), (.int 0)], .lst [(.int 3), (.int 4), (.int 2), (.int 0)], .lst [(.int 3), (.int 3), (.int 3), (.int 0)], .lst [(.int 3), (.int 3), (.int 2), (.int 1)], .lst [(.int 4), (.int 3), (.int 1), (.int 1), (.int 0)], .lst [(.int 3), (.int 4), (.int 1), (.int 1), (.int 0)], .lst [(.int 3), (.int 3), (.int 2), (.int 1), (.int 0)], .lst [(.int 3), (.int 3), (.int 1), (.int 2), (.int 0)], .lst [(.int 3), (.int 3), (.int 1), (.int 1), (.int 1)], .lst [(.int 4), (.int 2), (.int 2), (.int 1), (.int 0)], .lst [(.int 3), (.int 3), (.int 2), (.int 1), (.int 0)], .lst [(.int 3), (.int 2), (.int 3), (.int 1), (.int 0)], .lst [(.int 3), (.int 2), (.int 2), (.int 2), (.int 0)], .lst [(.int 3), (.int 2), (.int 2), (.int 1), (.int 1)], .lst [(.int 4), (.int 2), (.int 1), (.int 1), (.int 1), (.int 0)], .lst [(.int 3), (.int 3), (.int 1), (.int 1), (.int 1), (.int 0)], .lst [(.int 3), (.int 2), (.int 2), (.int 1), (.int 1), (.int 0)], .lst [(.int 3), (.int 2), (.int 1), (.int 2), (.int 1), (.int 0)], .lst [(.int 3), (.int 2), (.int 1), (.int 1), (.int 2), (.int 0)], .lst [(.int 3), (.int 2), (.int 1), (.int 1), (.int 1), (.int 1)], .lst [(.int 4), (.int 1), (.int 1), (.int 1), (.int 1), (.int 1), (.int 0)], .lst [(.int 3), (.int 2), (.int 1), (.int 1), (.int 1), (.int 1), (.int 0)], .lst [(.int 3), (.int 1), (.int 2), (.int 1), (.int 1), (.int 1), (.int 0)], .lst [(.int 3), (.int 1), (.int 1), (.int 2), (.int 1), (.int 1), (.int 0)], .lst [(.int 3), (.int 1), (.int 1), (.int 1), (.int 2), (.int 1), (.int 0)], .lst [(.int 3), (.int 1), (.int 1), (.int 1), (.int 1), (.int 2), (.int 0)], .lst [(.int 3), (.int 1), (.int 1), (.int 1), (.int 1), (.int 1), (.int 1)], .lst [(.int 3), (.int 2), (.int 2), (.int 2), (.int 0)], .lst [(.int 2), (.int 3), (.int 2), (.int 2), (.int 0)], .lst [(.int 2), (.int 2), (.int 3), (.int 2), (.int 0)], .lst [(.int 2), (.int 2), (.int 2), (.int 3), (.int 0)], .lst [(.int 2), (.int 2), (.int 2), (.int 2), (.int 1)], .lst [(.int 3), (.int 2), (.int 2), (.int 1), (.int 1), (.int 0)], .lst [(.int 2), (.int 3), (.int 2), (.int 1), (.int 1), (.int 0)], .lst [(.int 2), (.int 2), (.int 3), (.int 1), (.int 1), (.int 0)], .lst [(.int 2), (.int 2), (.int 2), (.int 2), (.int 1), (.int 0)], .lst [(.int 2), (.int 2), (.int 2), (.int 1), (.int 2), (.int 0)], .lst [(.int 2), (.int 2), (.int 2), (.int 1), (.int 1), (.int 1)], .lst [(.int 3), (.int 2), (.int 1), (.int 1), (.int 1), (.int 1), (.int 0)], .lst [(.int 2), (.int 3), (.int 1), (.int 1), (.int 1), (.int 1), (.int 0)], .lst [(.int 2), (.int 2), (.int 2), (.int 1), (.int 1), (.int 1), (.int 0)], .lst [(.int 2), (.int 2), (.int 1), (.int 2), (.int 1), (.int 1), (.int 0)], .lst [(.int 2), (.int 2), (.int 1), (.int 1), (.int 2), (.int 1), (.int 0)], .lst [(.int 2), (.int 2), (.int 1), (.int 1), (.int 1), (.int 2), (.int 0)], .lst [(.int 2), (.int 2), (.int 1), (.int 1), (.int 1), (.int 1), (.int 1)], .lst [(.int 3), (.int 1), (.int 1), (.int 1), (.int 1), (.int 1), (.int 1), (.int 0)], .lst [(.int 2), (.int 2), (.int 1), (.int 1), (.int 1), (.int 1), (.int 1), (.int 0)], .lst [(.int 2), (.int 1), (.int 2), (.int 1), (.int 1), (.int 1), (.int 1), (.int 0)], .lst [(.int 2), (.int 1), (.int 1), (.int 2), (.int 1), (.int 1), (.int 1), (.int 0)], .lst [(.int 2), (.int 1), (.int 1), (.int 1), (.int 2), (.int 1), (.int 1), (.int 0)], .lst [(.int 2), (.int 1), (.int 1), (.int 1), (.int 1), (.int 2), (.int 1), (.int 0)], .lst [(.int 2), (.int 1), (.int 1), (.int 1), (.int 1), (.int 1), (.int 2), (.int 0)], .lst [(.int 2), (.int 1), (.int 1), (.int 1), (.int 1), (.int 1), (.int 1), (.int 1)], .lst [(.int 2), (.int 1), (.int 1), (.int 1), (.int 1), (.int 1), (.int 1), (.int 1), (.int 0)], .lst [(.int 1), (.int 2), (.int 1), (.int 1), (.int 1), (.int 1), (.int 1), (.int 1), (.int 0)], .lst [(.int 1), (.int 1), (.int 2), (.int 1), (.int 1), (.int 1), (.int 1), (.int 1), (.int 0)], .lst [(.int 1), (.int 1), (.int 1), (.int 2), (.int 1), (.int 1), (.int 1), (.int 1), (.int 0)], .lst [(.int 1), (.int 1), (.int 1), (.int 1), (.int 2), (.int 1), (.int 1), (.int 1), (.int 0)], .lst [(.int 1), (.int 1), (.int 1), (.int 1), (.int 1), (.int 2), (.int 1), (.int 1), (.int 0)], .lst [(.int 1), (.int 1), (.int 1), (.int 1), (.int 1), (.int 1), (.int 2), (.int 1), (.int 0)], .lst [(.int 1), (.int 1), (.int 1), (.int 1), (.int 1), (.int 1), (.int 1), (.int 2), (.int 0)], .lst [(.int 1), (.int 1), (.int 1), (.int 1), (.int 1), (.int 1), (.int 1), (.int 1), (.int 1)]]
def E_9 : List U := [(.tup [(.int 9)]), (.tup [(.int 8), (.int 1)]), (.tup [(.int 7), (.int 2)]), (.tup [(.int 7), (.int 1), (.int 1)]), (.tup [(.int 6), (.int 3)]), (.tup [(.int 6), (.int 2), (.int 1)]), (.tup [(.int 6), (.int 1), (.int 1), (.int 1)]), (.tup [(.int 5), (.int 4)]), (.tup [(.int 5), (.int 3), (.int 1)]), (.tup [(.int 5), (.int 2), (.int 2)]), (.tup [(.int 5), (.int 2), (.int 1), (.int 1)]), (.tup [(.int 5), (.int 1), (.int 1), (.int 1), (.int 1)]), (.tup [(.int 4), (.int 4), (.int 1)]), (.tup [(.int 4), (.int 3), (.int 2)]), (.tup [(.int 4), (.int 3), (.int 1), (.int 1)]), (.tup [(.int 4), (.int 2), (.int 2), (.int 1)]), (.tup [(.int 4), (.int 2), (.int 1), (.int 1), (.int 1)]), (.tup [(.int 4), (.int 1), (.int 1), (.int 1), (.int 1), (.int 1)]), (.tup [(.int 3), (.int 3), (.int 3)]), (.tup [(.int 3), (.int 3), (.int 2), (.int 1)]), (.tup [(.int 3), (.int 3), (.int 1), (.int 1), (.int 1)]), (.tup [(.int 3), (.int 2), (.int 2), (.int 2)]), (.tup [(.int 3), (.int 2), (.int 2), (.int 1), (.int 1)]), (.tup [(.int 3), (.int 2), (.int 1), (.int 1), (.int 1), (.int 1)]), (.tup [(.int 3), (.int 1), (.int 1), (.int 1), (.int 1), (.int 1), (.int 1)]), (.tup [(.int 2), (.int 2), (.int 2), (.int 2), (.int 1)]), (.tup [(.int 2), (.int 2), (.int 2), (.int 1), (.int 1), (.int 1)]), (.tup [(.int 2), (.int 2), (.int 1), (.int 1), (.int 1), (.int 1), (.int 1)]), (.tup [(.int 2), (.int 1), (.int 1), (.int 1), (.int 1), (.int 1), (.int 1), (.int 1)]), (.tup [(.int 1), (.int 1), (.int 1), (.int 1), (.int 1), (.int 1), (.int 1), (.int 1), (.int 1)])]
def p_9 : Nat := 185
def tF_9 : List (List Int × Int) := [([9], 1), ([8, 1], 8), ([7, 2], 27), ([7, 1, 1], 28), ([6, 3], 48), ([6, 2, 1], 105), ([6, 1, 1, 1], 56), ([5, 4], 42), ([5, 3, 1], 162), ([5, 2, 2], 120), ([5, 2, 1, 1], 189), ([5, 1, 1, 1, 1], 70), ([4, 4, 1], 84), ([4, 3, 2], 168), ([4, 3, 1, 1], 216), ([4, 2, 2, 1], 216), ([4, 2, 1, 1, 1], 189), ([4, 1, 1, 1, 1, 1], 56), ([3, 3, 3], 42), ([3, 3, 2, 1], 168), ([3, 3, 1, 1, 1], 120), ([3, 2, 2, 2], 84), ([3, 2, 2, 1, 1], 162), ([3, 2, 1, 1, 1, 1], 105), ([3, 1, 1, 1, 1, 1, 1], 28), ([2, 2, 2, 2, 1], 42), ([2, 2, 2, 1, 1, 1], 48), ([2, 2, 1, 1, 1, 1, 1], 27), ([2, 1, 1, 1, 1, 1, 1, 1], 8), ([1, 1, 1, 1, 1, 1, 1, 1, 1], 1)]
def tH_9 : List (List Int × Int) := [([9], 362880), ([8, 1], 45360), ([7, 2], 13440), ([7, 1, 1], 12960), ([6, 3], 7560), ([6, 2, 1], 3456), ([6, 1, 1, 1], 6480), ([5, 4], 8640), ([5, 3, 1], 2240), ([5, 2, 2], 3024), ([5, 2, 1, 1], 1920), ([5, 1, 1, 1, 1], 5184), ([4, 4, 1], 4320), ([4, 3, 2], 2160), ([4, 3, 1, 1], 1680), ([4, 2, 2, 1], 1680), ([4, 2, 1, 1, 1], 1920), ([4, 1, 1, 1, 1, 1], 6480), ([3, 3, 3], 8640), ([3, 3, 2, 1], 2160), ([3, 3, 1, 1, 1], 3024), ([3, 2, 2, 2], 4320), ([3, 2, 2, 1, 1], 2240), ([3, 2, 1, 1, 1, 1], 3456), ([3, 1, 1, 1, 1, 1, 1], 12960), ([2, 2, 2, 2, 1], 8640), ([2, 2, 2, 1, 1, 1], 7560), ([2, 2, 1, 1, 1, 1, 1], 13440), ([2, 1, 1, 1, 1, 1, 1, 1], 45360), ([1, 1, 1, 1, 1, 1, 1, 1, 1], 362880)]
def Hc : Nat → List UO
  | 0 => H_0
  | 1 => H_1
  | 2 => H_2
  | 3 => H_3
  | 4 => H_4
  | 5 => H_5
  | 6 => H_6
  | 7 => H_7
  | 8 => H_8
  | 9 => H_9
  | _ => []
def Ec : Nat → List U
  | 0 => E_0
  | 1 => E_1
  | 2 => E_2
  | 3 => E_3
  | 4 => E_4
  | 5 => E_5
  | 6 => E_6
  | 7 => E_7
  | 8 => E_8
  | 9 => E_9
  | _ => []
def pc : Nat → Nat
  | 0 => p_0
  | 1 => p_1
  | 2 => p_2
  | 3 => p_3
  | 4 => p_4
  | 5 => p_5
  | 6 => p_6
  | 7 => p_7
  | 8 => p_8
  | 9 => p_9
  | _ => 0
def tF : List (List Int × Int) := tF_9 ++ tF_8 ++ tF_7 ++ tF_6 ++ tF_5 ++ tF_4 ++ tF_3 ++ tF_2 ++ tF_1 ++ tF_0
def tH : List (List Int × Int) := tH_9 ++ tH_8 ++ tH_7 ++ tH_6 ++ tH_5 ++ tH_4 ++ tH_3 ++ tH_2 ++ tH_1 ++ tH_0
def u0 (c : Nat) : Lo := [none, none, some (.int c), none, none, none, none, none, none, none, none, none, none, none, none, none, none, none]
def u0r (c : Nat) : Lo := [none, none, some (.int c), none, none, none, none, some (.ref (pc c)), some (.fl (Ec c)), none, none, none, none, none, none, none, none, none]
def u1 (c d : Nat) : Lo := [none, none, some (.int c), some (.int d), none, none, none, some (.ref (pc c)), some (.fl (Ec c)), none, none, none, none, none, none, none, none, none]
def u2 (c z : Nat) : Lo := [none, none, some (.int c), none, some (.int z), none, none, some (.ref (pc c)), some (.fl (Ec c)), none, none, none, none, none, none, none, none, none]
noncomputable def ZF : Fg := byT tF Y_filling_count
noncomputable def ZH : Fg := byT tH Y__law_hooks
noncomputable def ZGb : Sv := (xSeq (xEx (xCallG 1 Y_check_size (xCons (xVar 0) eNil)))
  (xRet (xCall xSum (xCons (eF (xLc (eSeq (xCallH 2 (Y_shapes_of 12) (xCons (xVar 1) (xCons (xVar 0) eNil)))) (xName 2) bYes (xE2 (kI cPow fun i j => i ^ j.toNat) (xCallG 1 ZF (xCons (xVar 2) eNil)) (eC (.int 2))) [2])) eNil))))
noncomputable def ZG : Fg := xrunG 3 ZGb
noncomputable def ZM2 : Sv := (xSeq (xSet 11 (eC (.int 1)))
  (xSeq (xFor (xr1 (xVar 2)) (xName 12)
  (xSet 11 (xE2 kMul (xVar 11) (xE2 xAddS (xVar 12) (eC (.int 1))))))
  (xSeq (xSet 13 (eC (.int 0)))
  (xSeq (xSet 14 (eC (.int 0)))
  (xSeq (xFor (eSeq (xVar 8)) (xName 15)
  (xSeq (xSet 16 (xCallG 1 ZF (xCons (xVar 15) eNil)))
  (xSeq (xIf (xOr (xNot (xB (xCallG 2 Y__law_is_count (xCons (xVar 16) (xCons (xE2 (kDgetT BAD) (xVar 7) (xVar 15)) eNil))))) (xB (xE2 xNe (xE2 kMul (xVar 16) (xCallG 1 ZH (xCons (xVar 15) eNil))) (xVar 11)))) (xRet (eC (.bl false))) gNx)
  (xSeq (xSet 13 (xE2 xAddS (xVar 13) (xE2 kMul (xVar 16) (xVar 16))))
  (xIf (xB (xE2 xLe (xCall xMax (xCons (xE2 xAddS (eF (eLst (xCons (eC (.int 0)) eNil))) (eF (eListOf (xCons (xVar 15) eNil)))) eNil)) (xVar 4))) (xSet 14 (xE2 xAddS (xVar 14) (xE2 kMul (xE2 (kDgetT BAD) (xVar 7) (xVar 15)) (xE2 (kDgetT BAD) (xVar 7) (xVar 15))))) gNx)))))
  (xSeq (xIf (xOr (xB (xE2 xNe (xVar 13) (xVar 11))) (xNot (xB (xCallG 2 Y__law_is_count (xCons (xCallG 2 ZG (xCons (xVar 4) (xCons (xVar 2) eNil))) (xCons (xVar 14) eNil)))))) (xRet (eC (.bl false))) gNx)
  (xSeq (xIf (xAnd (xB (xE2 xLe (xVar 2) (eC (.int 5)))) (xB (xE2 xNe (xVar 14) (xCall xLen (xCons (eF (xLc (eSeq (xCallG 1 Y__law_listed (xCons (xVar 2) eNil))) (xName 17) (xB (xE2 xLe (xCallG 1 Y__law_longest (xCons (xVar 17) eNil)) (xVar 4))) (xVar 17) [17])) eNil))))) (xRet (eC (.bl false))) gNx)
  (xIf (xOr (xAnd (xB (xE2 xLe (xVar 2) (xVar 4))) (xB (xE2 xNe (xVar 14) (xVar 11)))) (xAnd (xB (xE2 xEq (xVar 2) (xE2 xAddS (xVar 4) (eC (.int 1))))) (xB (xE2 xNe (xVar 14) (xE2 (kI0 fun i j => i - j) (xVar 11) (eC (.int 1))))))) (xRet (eC (.bl false))) gNx))))))))
noncomputable def ok1 (c d : Nat) : Bool := match XM1_law (u1 c d) (Hc c) with
  | .nx a h => Nat.beq a.length 18 && sameAt [2, 7, 8, 11, 12, 13, 14, 15, 16, 17] (u1 c d) a && preH (Hc c) h
  | _ => false
noncomputable def ok2 (c z : Nat) (hr : List UO) : Bool := match ZM2 (u2 c z) (Hc c ++ hr) with
  | .nx a _ => sameS a[2]? (some (some (.int c)))
  | _ => false
end K26
namespace K26
open PySem L2 Fn
theorem chk0_0 : sameN (u0r 0) (Hc 0) (XM0_law (u0 0) []) = true := by kernel_rfl
theorem chk0_1 : sameN (u0r 1) (Hc 1) (XM0_law (u0 1) []) = true := by kernel_rfl
theorem chk0_2 : sameN (u0r 2) (Hc 2) (XM0_law (u0 2) []) = true := by kernel_rfl
theorem chk0_3 : sameN (u0r 3) (Hc 3) (XM0_law (u0 3) []) = true := by kernel_rfl
theorem chk0_4 : sameN (u0r 4) (Hc 4) (XM0_law (u0 4) []) = true := by kernel_rfl
theorem chk0_5 : sameN (u0r 5) (Hc 5) (XM0_law (u0 5) []) = true := by kernel_rfl
theorem chk0_6 : sameN (u0r 6) (Hc 6) (XM0_law (u0 6) []) = true := by kernel_rfl
theorem chk0_7 : sameN (u0r 7) (Hc 7) (XM0_law (u0 7) []) = true := by kernel_rfl
theorem chk0_8 : sameN (u0r 8) (Hc 8) (XM0_law (u0 8) []) = true := by kernel_rfl
theorem chk0_9 : sameN (u0r 9) (Hc 9) (XM0_law (u0 9) []) = true := by kernel_rfl
theorem chkTF_0_0 : ((tF_0.drop (0 * 30)).take 30).all (fun p => isI (Y_filling_count [.tup (p.1.map .int)]) p.2) = true := by kernel_rfl
theorem chkUF_0 : tF_0.all (fun p => isI (Y_filling_count [.tup (p.1.map .int)]) p.2) = true := all_chunks _ 30 1 _ (by decide) fun k hk => match k, hk with
  | 0, _ => chkTF_0_0
  | n + 1, h => absurd h (by omega)
theorem chkTH_0_0 : ((tH_0.drop (0 * 15)).take 15).all (fun p => isI (Y__law_hooks [.tup (p.1.map .int)]) p.2) = true := by kernel_rfl
theorem chkUH_0 : tH_0.all (fun p => isI (Y__law_hooks [.tup (p.1.map .int)]) p.2) = true := all_chunks _ 15 1 _ (by decide) fun k hk => match k, hk with
  | 0, _ => chkTH_0_0
  | n + 1, h => absurd h (by omega)
theorem chkTF_1_0 : ((tF_1.drop (0 * 30)).take 30).all (fun p => isI (Y_filling_count [.tup (p.1.map .int)]) p.2) = true := by kernel_rfl
theorem chkUF_1 : tF_1.all (fun p => isI (Y_filling_count [.tup (p.1.map .int)]) p.2) = true := all_chunks _ 30 1 _ (by decide) fun k hk => match k, hk with
  | 0, _ => chkTF_1_0
  | n + 1, h => absurd h (by omega)
theorem chkTH_1_0 : ((tH_1.drop (0 * 15)).take 15).all (fun p => isI (Y__law_hooks [.tup (p.1.map .int)]) p.2) = true := by kernel_rfl
theorem chkUH_1 : tH_1.all (fun p => isI (Y__law_hooks [.tup (p.1.map .int)]) p.2) = true := all_chunks _ 15 1 _ (by decide) fun k hk => match k, hk with
  | 0, _ => chkTH_1_0
  | n + 1, h => absurd h (by omega)
theorem chkTF_2_0 : ((tF_2.drop (0 * 30)).take 30).all (fun p => isI (Y_filling_count [.tup (p.1.map .int)]) p.2) = true := by kernel_rfl
theorem chkUF_2 : tF_2.all (fun p => isI (Y_filling_count [.tup (p.1.map .int)]) p.2) = true := all_chunks _ 30 1 _ (by decide) fun k hk => match k, hk with
  | 0, _ => chkTF_2_0
  | n + 1, h => absurd h (by omega)
theorem chkTH_2_0 : ((tH_2.drop (0 * 15)).take 15).all (fun p => isI (Y__law_hooks [.tup (p.1.map .int)]) p.2) = true := by kernel_rfl
theorem chkUH_2 : tH_2.all (fun p => isI (Y__law_hooks [.tup (p.1.map .int)]) p.2) = true := all_chunks _ 15 1 _ (by decide) fun k hk => match k, hk with
  | 0, _ => chkTH_2_0
  | n + 1, h => absurd h (by omega)
theorem chkTF_3_0 : ((tF_3.drop (0 * 30)).take 30).all (fun p => isI (Y_filling_count [.tup (p.1.map .int)]) p.2) = true := by kernel_rfl
theorem chkUF_3 : tF_3.all (fun p => isI (Y_filling_count [.tup (p.1.map .int)]) p.2) = true := all_chunks _ 30 1 _ (by decide) fun k hk => match k, hk with
  | 0, _ => chkTF_3_0
  | n + 1, h => absurd h (by omega)
theorem chkTH_3_0 : ((tH_3.drop (0 * 15)).take 15).all (fun p => isI (Y__law_hooks [.tup (p.1.map .int)]) p.2) = true := by kernel_rfl
theorem chkUH_3 : tH_3.all (fun p => isI (Y__law_hooks [.tup (p.1.map .int)]) p.2) = true := all_chunks _ 15 1 _ (by decide) fun k hk => match k, hk with
  | 0, _ => chkTH_3_0
  | n + 1, h => absurd h (by omega)
theorem chkTF_4_0 : ((tF_4.drop (0 * 30)).take 30).all (fun p => isI (Y_filling_count [.tup (p.1.map .int)]) p.2) = true := by kernel_rfl
theorem chkUF_4 : tF_4.all (fun p => isI (Y_filling_count [.tup (p.1.map .int)]) p.2) = true := all_chunks _ 30 1 _ (by decide) fun k hk => match k, hk with
  | 0, _ => chkTF_4_0
  | n + 1, h => absurd h (by omega)
theorem chkTH_4_0 : ((tH_4.drop (0 * 15)).take 15).all (fun p => isI (Y__law_hooks [.tup (p.1.map .int)]) p.2) = true := by kernel_rfl
theorem chkUH_4 : tH_4.all (fun p => isI (Y__law_hooks [.tup (p.1.map .int)]) p.2) = true := all_chunks _ 15 1 _ (by decide) fun k hk => match k, hk with
  | 0, _ => chkTH_4_0
  | n + 1, h => absurd h (by omega)
theorem chkTF_5_0 : ((tF_5.drop (0 * 30)).take 30).all (fun p => isI (Y_filling_count [.tup (p.1.map .int)]) p.2) = true := by kernel_rfl
theorem chkUF_5 : tF_5.all (fun p => isI (Y_filling_count [.tup (p.1.map .int)]) p.2) = true := all_chunks _ 30 1 _ (by decide) fun k hk => match k, hk with
  | 0, _ => chkTF_5_0
  | n + 1, h => absurd h (by omega)
theorem chkTH_5_0 : ((tH_5.drop (0 * 15)).take 15).all (fun p => isI (Y__law_hooks [.tup (p.1.map .int)]) p.2) = true := by kernel_rfl
theorem chkUH_5 : tH_5.all (fun p => isI (Y__law_hooks [.tup (p.1.map .int)]) p.2) = true := all_chunks _ 15 1 _ (by decide) fun k hk => match k, hk with
  | 0, _ => chkTH_5_0
  | n + 1, h => absurd h (by omega)
theorem chkTF_6_0 : ((tF_6.drop (0 * 30)).take 30).all (fun p => isI (Y_filling_count [.tup (p.1.map .int)]) p.2) = true := by kernel_rfl
theorem chkUF_6 : tF_6.all (fun p => isI (Y_filling_count [.tup (p.1.map .int)]) p.2) = true := all_chunks _ 30 1 _ (by decide) fun k hk => match k, hk with
  | 0, _ => chkTF_6_0
  | n + 1, h => absurd h (by omega)
theorem chkTH_6_0 : ((tH_6.drop (0 * 15)).take 15).all (fun p => isI (Y__law_hooks [.tup (p.1.map .int)]) p.2) = true := by kernel_rfl
theorem chkUH_6 : tH_6.all (fun p => isI (Y__law_hooks [.tup (p.1.map .int)]) p.2) = true := all_chunks _ 15 1 _ (by decide) fun k hk => match k, hk with
  | 0, _ => chkTH_6_0
  | n + 1, h => absurd h (by omega)
theorem chkTF_7_0 : ((tF_7.drop (0 * 30)).take 30).all (fun p => isI (Y_filling_count [.tup (p.1.map .int)]) p.2) = true := by kernel_rfl
theorem chkUF_7 : tF_7.all (fun p => isI (Y_filling_count [.tup (p.1.map .int)]) p.2) = true := all_chunks _ 30 1 _ (by decide) fun k hk => match k, hk with
  | 0, _ => chkTF_7_0
  | n + 1, h => absurd h (by omega)
theorem chkTH_7_0 : ((tH_7.drop (0 * 15)).take 15).all (fun p => isI (Y__law_hooks [.tup (p.1.map .int)]) p.2) = true := by kernel_rfl
theorem chkUH_7 : tH_7.all (fun p => isI (Y__law_hooks [.tup (p.1.map .int)]) p.2) = true := all_chunks _ 15 1 _ (by decide) fun k hk => match k, hk with
  | 0, _ => chkTH_7_0
  | n + 1, h => absurd h (by omega)
theorem chkTF_8_0 : ((tF_8.drop (0 * 30)).take 30).all (fun p => isI (Y_filling_count [.tup (p.1.map .int)]) p.2) = true := by kernel_rfl
theorem chkUF_8 : tF_8.all (fun p => isI (Y_filling_count [.tup (p.1.map .int)]) p.2) = true := all_chunks _ 30 1 _ (by decide) fun k hk => match k, hk with
  | 0, _ => chkTF_8_0
  | n + 1, h => absurd h (by omega)
theorem chkTH_8_0 : ((tH_8.drop (0 * 15)).take 15).all (fun p => isI (Y__law_hooks [.tup (p.1.map .int)]) p.2) = true := by kernel_rfl
theorem chkTH_8_1 : ((tH_8.drop (1 * 15)).take 15).all (fun p => isI (Y__law_hooks [.tup (p.1.map .int)]) p.2) = true := by kernel_rfl
theorem chkUH_8 : tH_8.all (fun p => isI (Y__law_hooks [.tup (p.1.map .int)]) p.2) = true := all_chunks _ 15 2 _ (by decide) fun k hk => match k, hk with
  | 0, _ => chkTH_8_0
  | 1, _ => chkTH_8_1
  | n + 2, h => absurd h (by omega)
theorem chkTF_9_0 : ((tF_9.drop (0 * 30)).take 30).all (fun p => isI (Y_filling_count [.tup (p.1.map .int)]) p.2) = true := by kernel_rfl
theorem chkUF_9 : tF_9.all (fun p => isI (Y_filling_count [.tup (p.1.map .int)]) p.2) = true := all_chunks _ 30 1 _ (by decide) fun k hk => match k, hk with
  | 0, _ => chkTF_9_0
  | n + 1, h => absurd h (by omega)
theorem chkTH_9_0 : ((tH_9.drop (0 * 15)).take 15).all (fun p => isI (Y__law_hooks [.tup (p.1.map .int)]) p.2) = true := by kernel_rfl
theorem chkTH_9_1 : ((tH_9.drop (1 * 15)).take 15).all (fun p => isI (Y__law_hooks [.tup (p.1.map .int)]) p.2) = true := by kernel_rfl
theorem chkUH_9 : tH_9.all (fun p => isI (Y__law_hooks [.tup (p.1.map .int)]) p.2) = true := all_chunks _ 15 2 _ (by decide) fun k hk => match k, hk with
  | 0, _ => chkTH_9_0
  | 1, _ => chkTH_9_1
  | n + 2, h => absurd h (by omega)
theorem allF : ∀ p ∈ tF, isI (Y_filling_count [.tup (p.1.map .int)]) p.2 = true := by
  intro p hp
  unfold tF at hp
  simp only [List.mem_append, or_assoc] at hp
  rcases hp with h | h | h | h | h | h | h | h | h | h
  · exact List.all_eq_true.mp chkUF_9 p h
  · exact List.all_eq_true.mp chkUF_8 p h
  · exact List.all_eq_true.mp chkUF_7 p h
  · exact List.all_eq_true.mp chkUF_6 p h
  · exact List.all_eq_true.mp chkUF_5 p h
  · exact List.all_eq_true.mp chkUF_4 p h
  · exact List.all_eq_true.mp chkUF_3 p h
  · exact List.all_eq_true.mp chkUF_2 p h
  · exact List.all_eq_true.mp chkUF_1 p h
  · exact List.all_eq_true.mp chkUF_0 p h
theorem ZF_eq : ZF = Y_filling_count := byT_eq allF
theorem allH : ∀ p ∈ tH, isI (Y__law_hooks [.tup (p.1.map .int)]) p.2 = true := by
  intro p hp
  unfold tH at hp
  simp only [List.mem_append, or_assoc] at hp
  rcases hp with h | h | h | h | h | h | h | h | h | h
  · exact List.all_eq_true.mp chkUH_9 p h
  · exact List.all_eq_true.mp chkUH_8 p h
  · exact List.all_eq_true.mp chkUH_7 p h
  · exact List.all_eq_true.mp chkUH_6 p h
  · exact List.all_eq_true.mp chkUH_5 p h
  · exact List.all_eq_true.mp chkUH_4 p h
  · exact List.all_eq_true.mp chkUH_3 p h
  · exact List.all_eq_true.mp chkUH_2 p h
  · exact List.all_eq_true.mp chkUH_1 p h
  · exact List.all_eq_true.mp chkUH_0 p h
theorem ZH_eq : ZH = Y__law_hooks := byT_eq allH
theorem chk1_0_0 : [1, 2, 3, 4, 5, 6, 7, 8, 9].all (ok1 0) = true := by kernel_rfl
theorem all1_0 : ∀ d, 1 ≤ d → d ≤ 9 → ok1 0 d = true := fun d h1 h2 => by
  have : d ∈ ([1, 2, 3, 4, 5, 6, 7, 8, 9] : List Nat) := by simp only [List.mem_cons, List.not_mem_nil, or_false]; omega
  exact List.all_eq_true.mp chk1_0_0 d this
theorem chk1_1_0 : [1, 2, 3, 4, 5, 6, 7, 8, 9].all (ok1 1) = true := by kernel_rfl
theorem all1_1 : ∀ d, 1 ≤ d → d ≤ 9 → ok1 1 d = true := fun d h1 h2 => by
  have : d ∈ ([1, 2, 3, 4, 5, 6, 7, 8, 9] : List Nat) := by simp only [List.mem_cons, List.not_mem_nil, or_false]; omega
  exact List.all_eq_true.mp chk1_1_0 d this
theorem chk1_2_0 : [1, 2, 3, 4, 5, 6, 7, 8, 9].all (ok1 2) = true := by kernel_rfl
theorem all1_2 : ∀ d, 1 ≤ d → d ≤ 9 → ok1 2 d = true := fun d h1 h2 => by
  have : d ∈ ([1, 2, 3, 4, 5, 6, 7, 8, 9] : List Nat) := by simp only [List.mem_cons, List.not_mem_nil, or_false]; omega
  exact List.all_eq_true.mp chk1_2_0 d this
theorem chk1_3_0 : [1, 2, 3, 4, 5, 6, 7, 8, 9].all (ok1 3) = true := by kernel_rfl
theorem all1_3 : ∀ d, 1 ≤ d → d ≤ 9 → ok1 3 d = true := fun d h1 h2 => by
  have : d ∈ ([1, 2, 3, 4, 5, 6, 7, 8, 9] : List Nat) := by simp only [List.mem_cons, List.not_mem_nil, or_false]; omega
  exact List.all_eq_true.mp chk1_3_0 d this
theorem chk1_4_0 : [1, 2, 3, 4, 5, 6, 7, 8, 9].all (ok1 4) = true := by kernel_rfl
theorem all1_4 : ∀ d, 1 ≤ d → d ≤ 9 → ok1 4 d = true := fun d h1 h2 => by
  have : d ∈ ([1, 2, 3, 4, 5, 6, 7, 8, 9] : List Nat) := by simp only [List.mem_cons, List.not_mem_nil, or_false]; omega
  exact List.all_eq_true.mp chk1_4_0 d this
theorem chk1_5_0 : [1, 2, 3, 4, 5, 6, 7, 8, 9].all (ok1 5) = true := by kernel_rfl
theorem all1_5 : ∀ d, 1 ≤ d → d ≤ 9 → ok1 5 d = true := fun d h1 h2 => by
  have : d ∈ ([1, 2, 3, 4, 5, 6, 7, 8, 9] : List Nat) := by simp only [List.mem_cons, List.not_mem_nil, or_false]; omega
  exact List.all_eq_true.mp chk1_5_0 d this
theorem chk1_6_0 : [1, 2, 3, 4, 5, 6, 7, 8, 9].all (ok1 6) = true := by kernel_rfl
theorem all1_6 : ∀ d, 1 ≤ d → d ≤ 9 → ok1 6 d = true := fun d h1 h2 => by
  have : d ∈ ([1, 2, 3, 4, 5, 6, 7, 8, 9] : List Nat) := by simp only [List.mem_cons, List.not_mem_nil, or_false]; omega
  exact List.all_eq_true.mp chk1_6_0 d this
theorem chk1_7_0 : [1, 2, 3].all (ok1 7) = true := by kernel_rfl
theorem chk1_7_1 : [4, 5, 6].all (ok1 7) = true := by kernel_rfl
theorem chk1_7_2 : [7, 8, 9].all (ok1 7) = true := by kernel_rfl
theorem all1_7 : ∀ d, 1 ≤ d → d ≤ 9 → ok1 7 d = true := fun d h1 h2 => by
  have : d ∈ ([1, 2, 3] : List Nat) ∨ d ∈ ([4, 5, 6] : List Nat) ∨ d ∈ ([7, 8, 9] : List Nat) := by simp only [List.mem_cons, List.not_mem_nil, or_false]; omega
  rcases this with h | h | h
  · exact List.all_eq_true.mp chk1_7_0 d h
  · exact List.all_eq_true.mp chk1_7_1 d h
  · exact List.all_eq_true.mp chk1_7_2 d h
theorem chk1_8_0 : [1, 2, 3].all (ok1 8) = true := by kernel_rfl
theorem chk1_8_1 : [4, 5, 6].all (ok1 8) = true := by kernel_rfl
theorem chk1_8_2 : [7, 8, 9].all (ok1 8) = true := by kernel_rfl
theorem all1_8 : ∀ d, 1 ≤ d → d ≤ 9 → ok1 8 d = true := fun d h1 h2 => by
  have : d ∈ ([1, 2, 3] : List Nat) ∨ d ∈ ([4, 5, 6] : List Nat) ∨ d ∈ ([7, 8, 9] : List Nat) := by simp only [List.mem_cons, List.not_mem_nil, or_false]; omega
  rcases this with h | h | h
  · exact List.all_eq_true.mp chk1_8_0 d h
  · exact List.all_eq_true.mp chk1_8_1 d h
  · exact List.all_eq_true.mp chk1_8_2 d h
theorem chk1_9_0 : [1, 2].all (ok1 9) = true := by kernel_rfl
theorem chk1_9_1 : [3, 4].all (ok1 9) = true := by kernel_rfl
theorem chk1_9_2 : [5, 6].all (ok1 9) = true := by kernel_rfl
theorem chk1_9_3 : [7, 8].all (ok1 9) = true := by kernel_rfl
theorem chk1_9_4 : [9].all (ok1 9) = true := by kernel_rfl
theorem all1_9 : ∀ d, 1 ≤ d → d ≤ 9 → ok1 9 d = true := fun d h1 h2 => by
  have : d ∈ ([1, 2] : List Nat) ∨ d ∈ ([3, 4] : List Nat) ∨ d ∈ ([5, 6] : List Nat) ∨ d ∈ ([7, 8] : List Nat) ∨ d ∈ ([9] : List Nat) := by simp only [List.mem_cons, List.not_mem_nil, or_false]; omega
  rcases this with h | h | h | h | h
  · exact List.all_eq_true.mp chk1_9_0 d h
  · exact List.all_eq_true.mp chk1_9_1 d h
  · exact List.all_eq_true.mp chk1_9_2 d h
  · exact List.all_eq_true.mp chk1_9_3 d h
  · exact List.all_eq_true.mp chk1_9_4 d h
theorem chk2_0_1 (hr : List UO) : ok2 0 1 hr = true := by kernel_rfl
theorem chk2_0_2 (hr : List UO) : ok2 0 2 hr = true := by kernel_rfl
theorem chk2_0_3 (hr : List UO) : ok2 0 3 hr = true := by kernel_rfl
theorem chk2_1_1 (hr : List UO) : ok2 1 1 hr = true := by kernel_rfl
theorem chk2_1_2 (hr : List UO) : ok2 1 2 hr = true := by kernel_rfl
theorem chk2_1_3 (hr : List UO) : ok2 1 3 hr = true := by kernel_rfl
theorem chk2_2_1 (hr : List UO) : ok2 2 1 hr = true := by kernel_rfl
theorem chk2_2_2 (hr : List UO) : ok2 2 2 hr = true := by kernel_rfl
theorem chk2_2_3 (hr : List UO) : ok2 2 3 hr = true := by kernel_rfl
theorem chk2_3_1 (hr : List UO) : ok2 3 1 hr = true := by kernel_rfl
theorem chk2_3_2 (hr : List UO) : ok2 3 2 hr = true := by kernel_rfl
theorem chk2_3_3 (hr : List UO) : ok2 3 3 hr = true := by kernel_rfl
theorem chk2_4_1 (hr : List UO) : ok2 4 1 hr = true := by kernel_rfl
theorem chk2_4_2 (hr : List UO) : ok2 4 2 hr = true := by kernel_rfl
theorem chk2_4_3 (hr : List UO) : ok2 4 3 hr = true := by kernel_rfl
theorem chk2_5_1 (hr : List UO) : ok2 5 1 hr = true := by kernel_rfl
theorem chk2_5_2 (hr : List UO) : ok2 5 2 hr = true := by kernel_rfl
theorem chk2_5_3 (hr : List UO) : ok2 5 3 hr = true := by kernel_rfl
theorem chk2_6_1 (hr : List UO) : ok2 6 1 hr = true := by kernel_rfl
theorem chk2_6_2 (hr : List UO) : ok2 6 2 hr = true := by kernel_rfl
theorem chk2_6_3 (hr : List UO) : ok2 6 3 hr = true := by kernel_rfl
theorem chk2_7_1 (hr : List UO) : ok2 7 1 hr = true := by kernel_rfl
theorem chk2_7_2 (hr : List UO) : ok2 7 2 hr = true := by kernel_rfl
theorem chk2_7_3 (hr : List UO) : ok2 7 3 hr = true := by kernel_rfl
theorem chk2_8_1 (hr : List UO) : ok2 8 1 hr = true := by kernel_rfl
theorem chk2_8_2 (hr : List UO) : ok2 8 2 hr = true := by kernel_rfl
theorem chk2_8_3 (hr : List UO) : ok2 8 3 hr = true := by kernel_rfl
theorem chk2_9_1 (hr : List UO) : ok2 9 1 hr = true := by kernel_rfl
theorem chk2_9_2 (hr : List UO) : ok2 9 2 hr = true := by kernel_rfl
theorem chk2_9_3 (hr : List UO) : ok2 9 3 hr = true := by kernel_rfl
theorem all0 : ∀ c, c < 10 → XM0_law (u0 c) [] = .nx (u0r c) (Hc c) := fun c hc => match c, hc with
  | 0, _ => sameN_eq chk0_0
  | 1, _ => sameN_eq chk0_1
  | 2, _ => sameN_eq chk0_2
  | 3, _ => sameN_eq chk0_3
  | 4, _ => sameN_eq chk0_4
  | 5, _ => sameN_eq chk0_5
  | 6, _ => sameN_eq chk0_6
  | 7, _ => sameN_eq chk0_7
  | 8, _ => sameN_eq chk0_8
  | 9, _ => sameN_eq chk0_9
  | n + 10, h => absurd h (by omega)
theorem all1 : ∀ c, c < 10 → ∀ d, 1 ≤ d → d ≤ 9 → ok1 c d = true := fun c hc => match c, hc with
  | 0, _ => all1_0
  | 1, _ => all1_1
  | 2, _ => all1_2
  | 3, _ => all1_3
  | 4, _ => all1_4
  | 5, _ => all1_5
  | 6, _ => all1_6
  | 7, _ => all1_7
  | 8, _ => all1_8
  | 9, _ => all1_9
  | n + 10, h => absurd h (by omega)
theorem all2 : ∀ c, c < 10 → ∀ z, 1 ≤ z → z ≤ 3 → ∀ hr, ok2 c z hr = true := fun c hc z h1 h2 hr => by
  have : z = 1 ∨ z = 2 ∨ z = 3 := by omega
  exact match c, hc with
  | 0, _ => by rcases this with rfl | rfl | rfl; exact chk2_0_1 hr; exact chk2_0_2 hr; exact chk2_0_3 hr
  | 1, _ => by rcases this with rfl | rfl | rfl; exact chk2_1_1 hr; exact chk2_1_2 hr; exact chk2_1_3 hr
  | 2, _ => by rcases this with rfl | rfl | rfl; exact chk2_2_1 hr; exact chk2_2_2 hr; exact chk2_2_3 hr
  | 3, _ => by rcases this with rfl | rfl | rfl; exact chk2_3_1 hr; exact chk2_3_2 hr; exact chk2_3_3 hr
  | 4, _ => by rcases this with rfl | rfl | rfl; exact chk2_4_1 hr; exact chk2_4_2 hr; exact chk2_4_3 hr
  | 5, _ => by rcases this with rfl | rfl | rfl; exact chk2_5_1 hr; exact chk2_5_2 hr; exact chk2_5_3 hr
  | 6, _ => by rcases this with rfl | rfl | rfl; exact chk2_6_1 hr; exact chk2_6_2 hr; exact chk2_6_3 hr
  | 7, _ => by rcases this with rfl | rfl | rfl; exact chk2_7_1 hr; exact chk2_7_2 hr; exact chk2_7_3 hr
  | 8, _ => by rcases this with rfl | rfl | rfl; exact chk2_8_1 hr; exact chk2_8_2 hr; exact chk2_8_3 hr
  | 9, _ => by rcases this with rfl | rfl | rfl; exact chk2_9_1 hr; exact chk2_9_2 hr; exact chk2_9_3 hr
  | n + 10, h => absurd h (by omega)
end K26
namespace K26
open PySem L2 Fn
theorem ZG_eq : ZG = Y_good_count := by
  unfold ZG ZGb Y_good_count X_good_count
  rw [ZF_eq]
theorem ZM2_eq : ZM2 = M2_law := by
  rw [← XM2_law_eq]
  unfold ZM2 XM2_law
  rw [ZF_eq, ZH_eq, ZG_eq]
theorem ok1_of {c d : Nat} (h : ok1 c d = true) : ∃ a hr, M1_law (u1 c d) (Hc c) = .nx a (Hc c ++ hr) ∧ a.length = 18 ∧ ∀ j ∈ [2, 7, 8, 11, 12, 13, 14, 15, 16, 17], (u1 c d)[j]? = a[j]? := by
  unfold ok1 at h
  rw [XM1_law_eq] at h
  split at h
  · rename_i a hh q
    rw [Bool.and_eq_true, Bool.and_eq_true] at h
    obtain ⟨hr, e⟩ := preH_of h.2
    exact ⟨a, hr, by rw [q, e], Nat.eq_of_beq_eq_true h.1.1, sameAt_of h.1.2⟩
  · cases h
theorem ok2_of {c z : Nat} {hr : List UO} (h : ok2 c z hr = true) : ∃ a hh, M2_law (u2 c z) (Hc c ++ hr) = .nx a hh ∧ a[2]? = some (some (.int c)) := by
  unfold ok2 at h
  rw [ZM2_eq] at h
  split at h
  · rename_i a hh q
    exact ⟨a, hh, q, sameS_eq h⟩
  · cases h
theorem ind0 : IndS [0, 1, 3, 4, 5, 6] M0_law := by
  unfold M0_law
  with_reducible repeat' first | exact i_nil | exact i_C _ | refine is_seq ?_ ?_ | refine is_set ?_ ?_ | refine i_callH ?_ | refine i_e2 ?_ ?_ | refine i_cons ?_ ?_ | refine i_var ?_ | decide
theorem ind1 : IndS [0, 1, 4, 5, 6] M1_law := by
  unfold M1_law
  with_reducible repeat' first | exact i_nil | exact i_C _ | exact i_bYes | exact is_nx | refine is_seq ?_ ?_ | refine is_set ?_ ?_ | refine is_if ?_ ?_ ?_ | refine is_ret ?_ | refine is_ex ?_ | refine is_put ?_ ?_ ?_ | refine is_for ?_ ?_ ?_ | refine i_bOr ?_ ?_ | refine i_bAnd ?_ ?_ | refine i_bNot ?_ | refine i_bE ?_ | refine i_e1 ?_ | refine i_e2 ?_ ?_ | refine i_cons ?_ ?_ | refine i_callG ?_ | refine i_callR ?_ | refine i_callH ?_ | refine i_call ?_ | refine i_F ?_ | refine i_lst ?_ | refine i_listOf ?_ | refine i_tup ?_ | refine i_Mt ?_ ?_ | refine i_Lc ?_ ?_ ?_ ?_ ?_ | refine i_sq ?_ | refine i_r1 ?_ | refine i_r2 ?_ ?_ | refine it_name ?_ | refine i_var ?_ | decide
theorem ind2 : IndS [0, 1, 3, 5, 6, 9, 10] M2_law := by
  unfold M2_law
  with_reducible repeat' first | exact i_nil | exact i_C _ | exact i_bYes | exact is_nx | refine is_seq ?_ ?_ | refine is_set ?_ ?_ | refine is_if ?_ ?_ ?_ | refine is_ret ?_ | refine is_ex ?_ | refine is_put ?_ ?_ ?_ | refine is_for ?_ ?_ ?_ | refine i_bOr ?_ ?_ | refine i_bAnd ?_ ?_ | refine i_bNot ?_ | refine i_bE ?_ | refine i_e1 ?_ | refine i_e2 ?_ ?_ | refine i_cons ?_ ?_ | refine i_callG ?_ | refine i_callR ?_ | refine i_callH ?_ | refine i_call ?_ | refine i_F ?_ | refine i_lst ?_ | refine i_listOf ?_ | refine i_tup ?_ | refine i_Mt ?_ ?_ | refine i_Lc ?_ ?_ ?_ ?_ ?_ | refine i_sq ?_ | refine i_r1 ?_ | refine i_r2 ?_ ?_ | refine it_name ?_ | refine i_var ?_ | decide
/-- a wrong size -/
theorem refused_ok (s c : Int) (h : s < 1 ∨ 3 < s) : F__law_refused [.int s, .int c] = .ok (.bl true) := by
  have h1 : s ≠ 1 := by omega
  have h2 : s ≠ 2 := by omega
  have h3 : s ≠ 3 := by omega
  have hc : F_check_size [.int s] = .ex ⟨1, []⟩ := by
    have e : inU (.int s) [.int 1, .int 2, .int 3] = false := by
      simp [inU, eqUf, Ne.symm h1, Ne.symm h2, Ne.symm h3]
    simp [F_check_size, runG, B_check_size, startU, gIf, bE, e2, eVar, eC, Rs.bind, Rs.then, kIn, seqU, flatU, e, gRaise, fin]
  have hpi : ∀ i, pureU 10 (.int i) = true := fun _ => rfl
  have hg : F_good_count [.int s, .int c] = .ex ⟨1, []⟩ := by
    simp [F_good_count, runG, B_good_count, startU, gSeq, gEx, eCallG, eCons, eVar, eNil, Rs.bind, Rs.then, hpi, hc, fin]
  have hbl : Nat.blt 2 3 = true := by decide
  have hfz : ∀ h, frz 8 h (.bl true) = some (.bl true) := fun _ => rfl
  simp [F__law_refused, runG, B__law_refused, startU, gSeq, gTryR, cat__law_refused_0, ret__law_refused_0, gEx, eCallG, eCons, eVar, eNil, Rs.bind, Rs.then, hpi, hg, fin, hbl, hfz]
theorem set_e2 {i : Nat} {k : U → U → List UO → Rs U} {fa fb : Ev} {us : Lo} {h h1 h2 h3 : List UO} {x y u : U} (ha : fa us h = .ok x h1) (hb : fb us h1 = .ok y h2) (hk : k x y h2 = .ok u h3) : gSet i (e2 k fa fb) us h = .nx (us.set i (some u)) h3 := by
  unfold gSet e2
  rw [ha]
  show ((fb us h1).bind _).then _ _ = _
  rw [hb]
  show (k x y h2).then _ _ = _
  rw [hk]
  rfl
theorem ret_ok {us : Lo} {h : List UO} {c o sp : Int} (hc : us[2]? = some (some (.int c))) (ho : us[5]? = some (some (.int o))) (hs : us[6]? = some (some (.int sp))) (h1 : 1 ≤ sp) : okR (R3_law us h) = true := by
  have hpi : ∀ i, pureU 10 (.int i) = true := fun _ => rfl
  have hb3 : Nat.blt 3 1073741824 = true := by decide
  have hb7 : Nat.blt 7 1073741824 = true := by decide
  have m1 : 0 ≤ Int.fmod (Int.fdiv o 3) sp := Int.fmod_nonneg_of_pos _ (by omega)
  have m2 : 0 ≤ Int.fmod (Int.fdiv o 7) sp := Int.fmod_nonneg_of_pos _ (by omega)
  have e1 := refused_ok (0 - Int.fmod (Int.fdiv o 3) sp) c (.inl (by omega))
  have e2' := refused_ok (4 + Int.fmod (Int.fdiv o 7) sp) c (.inr (by omega))
  have hsb : (sp == 0) = false := beq_eq_false_iff_ne.mpr (by omega)
  have e1' : F__law_refused [U.int (-Int.fmod (Int.fdiv o 3) sp), .int c] = .ok (.bl true) := by
    rw [← e1]; congr 3; omega
  simp [R3_law, gRet, eAndV, eCallG, eCons, eVar, eC, eNil, e2, eCall, Rs.bind, Rs.then, kI0, kI, kInt, kAdd, cMod, cDiv, hc, ho, hs, hpi, hb3, hb7, hsb, e1, e1', e2', okR]
theorem law_true (ns : List Int) : F_law [.scr ns] = .ok (.bl true) := by
  obtain ⟨N0, hN0⟩ : ∃ i : Int, F__law_number [.scr ns, .int (0 : Nat)] = .ok (.int i) := number_ok ns 0
  obtain ⟨o, ho⟩ : ∃ i : Int, F__law_number [.scr ns, .int (1 : Nat)] = .ok (.int i) := number_ok ns 1
  have hN0' : F__law_number [.scr ns, .int 0] = .ok (.int N0) := hN0
  have ho' : F__law_number [.scr ns, .int 1] = .ok (.int o) := ho
  generalize hN : Int.fdiv N0 11 = N
  have hb11 : Nat.blt 11 1073741824 = true := by decide
  have hb10 : Nat.blt 10 1073741824 = true := by decide
  have hb90 : Nat.blt 90 1073741824 = true := by decide
  have hpw : (Nat.ble 30 1000000 && Nat.blt 10 18446744073709551616) = true := by decide
  have hps : ∀ ns, pureU 10 (.scr ns) = true := fun _ => rfl
  have hpi : ∀ i, pureU 10 (.int i) = true := fun _ => rfl
  have mc := Int.fmod_eq_emod_of_nonneg N (b := 10) (by decide)
  have md := Int.fmod_eq_emod_of_nonneg (Int.fdiv N 10) (b := 9) (by decide)
  have mz := Int.fmod_eq_emod_of_nonneg (Int.fdiv N 90) (b := 3) (by decide)
  have mo := Int.fmod_eq_emod_of_nonneg o (b := 3) (by decide)
  obtain ⟨c, hc⟩ : ∃ c : Nat, Int.fmod N 10 = (c : Int) := ⟨(Int.fmod N 10).toNat, by omega⟩
  obtain ⟨d, hd⟩ : ∃ d : Nat, 1 + Int.fmod (Int.fdiv N 10) 9 = (d : Int) := ⟨(1 + Int.fmod (Int.fdiv N 10) 9).toNat, by omega⟩
  obtain ⟨z, hz⟩ : ∃ z : Nat, 1 + Int.fmod (Int.fdiv N 90) 3 = (z : Int) := ⟨(1 + Int.fmod (Int.fdiv N 90) 3).toNat, by omega⟩
  have hcM : c < 10 := by omega
  let S : Option U → Option U → Option U → Option U → Option U → Option U → Lo := fun a b c d e f => [some (.scr ns), a, b, c, d, e, f, none, none, none, none, none, none, none, none, none, none, none]
  have w1 : gSet 1 (e2 (kI cDiv Int.fdiv) (eCallG 2 F__law_number (eCons (eVar 0) (eCons (eC (.int 0)) eNil))) (eC (.int 11))) (startU 18 [.scr ns]) [] = .nx (S (some (.int N)) none none none none none) [] := by
    simp [S, startU, gSet, e2, kI, cDiv, hb11, eCallG, eCons, eVar, eC, eNil, Rs.bind, Rs.then, hps, hpi, hN0', hN]
  have w2 : gSet 2 (e2 (kI cMod Int.fmod) (eCall kInt (eCons (eVar 1) eNil)) (eC (.int 10))) (S (some (.int N)) none none none none none) [] = .nx (S (some (.int N)) (some (.int c)) none none none none) [] := by
    simp [S, gSet, e2, eCall, eCons, eVar, eC, eNil, Rs.bind, Rs.then, kI, kInt, cMod, hc]
  have w3 : gSet 3 (e2 kAdd (eC (.int 1)) (e2 (kI cMod Int.fmod) (eCall kInt (eCons (e2 (kI cDiv Int.fdiv) (eVar 1) (eC (.int 10))) eNil)) (eC (.int 9)))) (S (some (.int N)) (some (.int c)) none none none none) [] = .nx (S (some (.int N)) (some (.int c)) (some (.int d)) none none none) [] := by
    simp [S, gSet, e2, eCall, eCons, eVar, eC, eNil, Rs.bind, Rs.then, kI, kInt, kAdd, cMod, cDiv, hb10, hd]
  have w4 : gSet 4 (e2 kAdd (eC (.int 1)) (e2 (kI cMod Int.fmod) (eCall kInt (eCons (e2 (kI cDiv Int.fdiv) (eVar 1) (eC (.int 90))) eNil)) (eC (.int 3)))) (S (some (.int N)) (some (.int c)) (some (.int d)) none none none) [] = .nx (S (some (.int N)) (some (.int c)) (some (.int d)) (some (.int z)) none none) [] := by
    simp [S, gSet, e2, eCall, eCons, eVar, eC, eNil, Rs.bind, Rs.then, kI, kInt, kAdd, cMod, cDiv, hb90, hz]
  have w5 : gSet 5 (eCallG 2 F__law_number (eCons (eVar 0) (eCons (eC (.int 1)) eNil))) (S (some (.int N)) (some (.int c)) (some (.int d)) (some (.int z)) none none) [] = .nx (S (some (.int N)) (some (.int c)) (some (.int d)) (some (.int z)) (some (.int o)) none) [] := by
    simp [S, gSet, eCallG, eCons, eVar, eC, eNil, Rs.bind, Rs.then, hps, hpi, ho']
  have w6 : ∃ sp : Int, 1 ≤ sp ∧ gSet 6 (e2 kIx (eF (eLst (eCons (eC (.int 1)) (eCons (eC (.int 9)) (eCons (e2 (kI cPow fun i j => i ^ j.toNat) (eC (.int 10)) (eC (.int 30))) eNil))))) (e2 (kI cMod Int.fmod) (eCall kInt (eCons (eVar 5) eNil)) (eC (.int 3)))) (S (some (.int N)) (some (.int c)) (some (.int d)) (some (.int z)) (some (.int o)) none) [] = .nx (S (some (.int N)) (some (.int c)) (some (.int d)) (some (.int z)) (some (.int o)) (some (.int sp))) [] := by
    have q : (e2 (kI cMod Int.fmod) (eCall kInt (eCons (eVar 5) eNil)) (eC (.int 3))) (S (some (.int N)) (some (.int c)) (some (.int d)) (some (.int z)) (some (.int o)) none) [] = .ok (.int (Int.fmod o 3)) [] := by
      simp [S, e2, eCall, eCons, eVar, eC, eNil, Rs.bind, kI, kInt, cMod]
    have r : (eF (eLst (eCons (eC (.int 1)) (eCons (eC (.int 9)) (eCons (e2 (kI cPow fun i j => i ^ j.toNat) (eC (.int 10)) (eC (.int 30))) eNil))))) (S (some (.int N)) (some (.int c)) (some (.int d)) (some (.int z)) (some (.int o)) none) [] = .ok (.fl [.int 1, .int 9, .int 1000000000000000000000000000000]) [] := by kernel_rfl
    have hv : Int.fmod o 3 = 0 ∨ Int.fmod o 3 = 1 ∨ Int.fmod o 3 = 2 := by omega
    rcases hv with hv | hv | hv
    · rw [hv] at q
      exact ⟨1, by decide, set_e2 r q rfl⟩
    · rw [hv] at q
      exact ⟨9, by decide, set_e2 r q rfl⟩
    · rw [hv] at q
      exact ⟨1000000000000000000000000000000, by decide, set_e2 r q rfl⟩
  obtain ⟨sp, hsp, w6⟩ := w6
  generalize ha0 : S (some (.int N)) (some (.int c)) (some (.int d)) (some (.int z)) (some (.int o)) (some (.int sp)) = a0 at w6
  have a0at : a0.length = 18 ∧ a0[2]? = some (some (.int c)) ∧ a0[3]? = some (some (.int d)) ∧ a0[4]? = some (some (.int z)) ∧ a0[5]? = some (some (.int o)) ∧ a0[6]? = some (some (.int sp)) ∧ ∀ j, 7 ≤ j → a0[j]? = (u0 c)[j]? := by
    subst ha0
    refine ⟨rfl, rfl, rfl, rfl, rfl, rfl, fun j hj => ?_⟩
    match j, hj with
    | j + 7, _ => rfl
  obtain ⟨l0, a2, a3, a4, a5, a6, a7⟩ := a0at
  -- the table
  have q0 := all0 c hcM
  rw [XM0_law_eq] at q0
  have e0 : Eqx [0, 1, 3, 4, 5, 6] a0 (u0 c) := ⟨l0, fun j hj => by
    simp at hj
    by_cases h2 : j = 2
    · subst h2; rw [a2]; rfl
    · exact a7 j (by omega)⟩
  obtain ⟨b, r1, r2, r3⟩ := ind0.nx e0 q0
  -- the shapes
  obtain ⟨x, hr, q1, lx, qx⟩ := ok1_of (all1 c hcM d (by omega) (by omega))
  have e1 : Eqx [0, 1, 4, 5, 6] b (u1 c d) := ⟨r2.len, fun j hj => by
    simp at hj
    by_cases h3 : j = 3
    · subst h3
      rw [r3.2 3 (by decide), a3]; rfl
    · rw [r2.at' j (by simp; omega)]
      match j, h3, hj with
      | 2, _, _ => rfl
      | 7, _, _ => rfl
      | 8, _, _ => rfl
      | j + 9, _, _ => rfl
      | 0, _, h => omega
      | 1, _, h => omega
      | 4, _, h => omega
      | 5, _, h => omega
      | 6, _, h => omega⟩
  obtain ⟨b2, s1, s2, s3⟩ := ind1.nx e1 q1
  -- the counts
  obtain ⟨y, hh, q2, qy⟩ := ok2_of (all2 c hcM z (by omega) (by omega) hr)
  have e2 : Eqx [0, 1, 3, 5, 6, 9, 10] b2 (u2 c z) := ⟨s2.len.trans lx, fun j hj => by
    simp at hj
    by_cases h4 : j = 4
    · subst h4
      rw [s3.2 4 (by decide), r3.2 4 (by decide), a4]; rfl
    · rw [s2.at' j (by simp; omega)]
      by_cases h18 : j < 18
      · rw [← qx j (by simp; omega)]
        match j, h4, hj with
        | 2, _, _ => rfl
        | 7, _, _ => rfl
        | 8, _, _ => rfl
        | j + 9, _, _ => rfl
        | 0, _, h => omega
        | 1, _, h => omega
        | 3, _, h => omega
        | 4, h, _ => omega
        | 5, _, h => omega
        | 6, _, h => omega
      · rw [List.getElem?_eq_none (by omega), List.getElem?_eq_none (by show 18 ≤ j; omega)]⟩
  obtain ⟨b3, t1, t2, t3⟩ := ind2.nx e2 q2
  have f2 : b3[2]? = some (some (.int c)) := by rw [t2.at' 2 (by decide)]; exact qy
  have f5 : b3[5]? = some (some (.int o)) := by rw [t3.2 5 (by decide), s3.2 5 (by decide), r3.2 5 (by decide), a5]
  have f6 : b3[6]? = some (some (.int sp)) := by rw [t3.2 6 (by decide), s3.2 6 (by decide), r3.2 6 (by decide), a6]
  have fin3 := ret_ok (h := hh) f2 f5 f6 hsp
  show fin (B_law (startU 18 [.scr ns]) []) = _
  refine okR_fin ?_
  unfold B_law
  rw [gSeq_nx w1, gSeq_nx w2, gSeq_nx w3, gSeq_nx w4, gSeq_nx w5, gSeq_nx w6]
  show okR (R0_law a0 []) = true
  rw [← M0_law_eq, gSeq_nx r1, ← M1_law_eq, gSeq_nx s1, ← M2_law_eq, gSeq_nx t1]
  exact fin3
end K26
open PySem PySem.W PyProof.Rows in
set_option maxHeartbeats 0 in
theorem PySem.Challenge.cw_tablelaws_k26_counts_holds : PySem.Challenge.rw_tablelaws_k26_counts.Holds := by
  w_on; o_law; k_head; (case hw => w_witness2)
  k_fill
  refine L2.walk_of (l := PySem.Challenge.rw_tablelaws_k26_counts) (n := 63) (k := 16) (x := "script") (CX := fun w => L2.CX PySem.Challenge.rw_tablelaws_k26_counts.prog w) (sp := fun w => Fn.topSp _) rfl (by decide) rfl ⟨rfl, by decide, by decide⟩ (fun w h Y => PySem.W.kIn_of Y) ?F (fun w H a ns hl hO hS => ⟨a, ns, rfl, hO, hS, hl, fun _ => rfl⟩) (fun w H s e s' hh => Fn.top_never hh)
  case F =>
    intro w mg fa h KX G hmg
    refine' K26.all_mk K26.law_true KX G hmg ?a_check_size ?l_check_size ?c_check_size ?k_check_size ?a_shapes_of ?l_shapes_of ?c_shapes_of ?k_shapes_of ?a__without_corner ?l__without_corner ?c__without_corner ?k__without_corner ?a__law_cell ?l__law_cell ?c__law_cell ?k__law_cell ?a__law_longest ?l__law_longest ?c__law_longest ?k__law_longest ?a__law_listed ?l__law_listed ?c__law_listed ?k__law_listed ?a__law_grown ?l__law_grown ?c__law_grown ?k__law_grown ?a__law_hooks ?l__law_hooks ?c__law_hooks ?k__law_hooks ?a__law_is_count ?l__law_is_count ?c__law_is_count ?k__law_is_count ?a_filling_count ?l_filling_count ?c_filling_count ?k_filling_count ?a__law_number ?l__law_number ?c__law_number ?k__law_number ?a__law_same_shapes ?l__law_same_shapes ?c__law_same_shapes ?k__law_same_shapes ?a_good_count ?l_good_count ?c_good_count ?k_good_count ?a__law_refused ?l__law_refused ?c__law_refused ?k__law_refused ?a_law ?l_law ?c_law ?k_law ?n_TableError ?kp_TableError ?bp_TableError ?tp_TableError ?ip_TableError ?ea_TableError ?eb_TableError ?ecc_TableError ?ed_TableError ?ee_TableError ?ef_TableError ?eg_TableError ?n_WrongSize ?kp_WrongSize ?bp_WrongSize ?tp_WrongSize ?ip_WrongSize ?e_WrongSize ?ea_WrongSize ?eb_WrongSize ?ecc_WrongSize ?ed_WrongSize ?ee_WrongSize ?ef_WrongSize ?eg_WrongSize ?n_WrongKind ?kp_WrongKind ?bp_WrongKind ?tp_WrongKind ?ip_WrongKind ?ea_WrongKind ?eb_WrongKind ?ecc_WrongKind ?ed_WrongKind ?ee_WrongKind ?ef_WrongKind ?eg_WrongKind ?n_InvalidPermutation ?kp_InvalidPermutation ?bp_InvalidPermutation ?tp_InvalidPermutation ?ip_InvalidPermutation ?ea_InvalidPermutation ?eb_InvalidPermutation ?ecc_InvalidPermutation ?ed_InvalidPermutation ?ee_InvalidPermutation ?ef_InvalidPermutation ?eg_InvalidPermutation ?n_TooLarge ?kp_TooLarge ?bp_TooLarge ?tp_TooLarge ?ip_TooLarge ?ea_TooLarge ?eb_TooLarge ?ecc_TooLarge ?ed_TooLarge ?ee_TooLarge ?ef_TooLarge ?eg_TooLarge ?s_InvalidPermutation_InvalidPermutation ?s_InvalidPermutation_TableError ?s_InvalidPermutation_TooLarge ?s_InvalidPermutation_WrongKind ?s_InvalidPermutation_WrongSize ?s_TableError_InvalidPermutation ?s_TableError_TableError ?s_TableError_TooLarge ?s_TableError_WrongKind ?s_TableError_WrongSize ?s_TooLarge_InvalidPermutation ?s_TooLarge_TableError ?s_TooLarge_TooLarge ?s_TooLarge_WrongKind ?s_TooLarge_WrongSize ?s_WrongKind_InvalidPermutation ?s_WrongKind_TableError ?s_WrongKind_TooLarge ?s_WrongKind_WrongKind ?s_WrongKind_WrongSize ?s_WrongSize_InvalidPermutation ?s_WrongSize_TableError ?s_WrongSize_TooLarge ?s_WrongSize_WrongKind ?s_WrongSize_WrongSize ?n_SIZES ?l_SIZES ?z_abs ?z_bool ?z_enumerate ?z_int ?z_isinstance ?z_len ?z_list ?z_max ?z_min ?z_range ?z_sorted ?z_sum ?z_tuple
    (case a_check_size => k_is)
    (case l_check_size => k_is)
    (case c_check_size => k_is)
    (case k_check_size => k_is)
    (case a_shapes_of => k_is)
    (case l_shapes_of => k_is)
    (case c_shapes_of => k_is)
    (case k_shapes_of => k_is)
    (case a__without_corner => k_is)
    (case l__without_corner => k_is)
    (case c__without_corner => k_is)
    (case k__without_corner => k_is)
    (case a__law_cell => k_is)
    (case l__law_cell => k_is)
    (case c__law_cell => k_is)
    (case k__law_cell => k_is)
    (case a__law_longest => k_is)
    (case l__law_longest => k_is)
    (case c__law_longest => k_is)
    (case k__law_longest => k_is)
    (case a__law_listed => k_is)
    (case l__law_listed => k_is)
    (case c__law_listed => k_is)
    (case k__law_listed => k_is)
    (case a__law_grown => k_is)
    (case l__law_grown => k_is)
    (case c__law_grown => k_is)
    (case k__law_grown => k_is)
    (case a__law_hooks => k_is)
    (case l__law_hooks => k_is)
    (case c__law_hooks => k_is)
    (case k__law_hooks => k_is)
    (case a__law_is_count => k_is)
    (case l__law_is_count => k_is)
    (case c__law_is_count => k_is)
    (case k__law_is_count => k_is)
    (case a_filling_count => k_is)
    (case l_filling_count => k_is)
    (case c_filling_count => k_is)
    (case k_filling_count => k_is)
    (case a__law_number => k_is)
    (case l__law_number => k_is)
    (case c__law_number => k_is)
    (case k__law_number => k_is)
    (case a__law_same_shapes => k_is)
    (case l__law_same_shapes => k_is)
    (case c__law_same_shapes => k_is)
    (case k__law_same_shapes => k_is)
    (case a_good_count => k_is)
    (case l_good_count => k_is)
    (case c_good_count => k_is)
    (case k_good_count => k_is)
    (case a__law_refused => k_is)
    (case l__law_refused => k_is)
    (case c__law_refused => k_is)
    (case k__law_refused => k_is)
    (case a_law => k_is)
    (case l_law => k_is)
    (case c_law => k_is)
    (case k_law => k_is)
    (case n_TableError => k_is)
    (case kp_TableError => k_is)
    (case bp_TableError => k_is)
    (case tp_TableError => k_is)
    (case ip_TableError => k_is)
    (case ea_TableError => k_is)
    (case eb_TableError => k_is)
    (case ecc_TableError => k_is)
    (case ed_TableError => k_is)
    (case ee_TableError => k_is)
    (case ef_TableError => k_is)
    (case eg_TableError => k_is)
    (case n_WrongSize => k_is)
    (case kp_WrongSize => k_is)
    (case bp_WrongSize => k_is)
    (case tp_WrongSize => k_is)
    (case ip_WrongSize => k_is)
    (case e_WrongSize => k_exc)
    (case ea_WrongSize => k_is)
    (case eb_WrongSize => k_is)
    (case ecc_WrongSize => k_is)
    (case ed_WrongSize => k_is)
    (case ee_WrongSize => k_is)
    (case ef_WrongSize => k_is)
    (case eg_WrongSize => k_is)
    (case n_WrongKind => k_is)
    (case kp_WrongKind => k_is)
    (case bp_WrongKind => k_is)
    (case tp_WrongKind => k_is)
    (case ip_WrongKind => k_is)
    (case ea_WrongKind => k_is)
    (case eb_WrongKind => k_is)
    (case ecc_WrongKind => k_is)
    (case ed_WrongKind => k_is)
    (case ee_WrongKind => k_is)
    (case ef_WrongKind => k_is)
    (case eg_WrongKind => k_is)
    (case n_InvalidPermutation => k_is)
    (case kp_InvalidPermutation => k_is)
    (case bp_InvalidPermutation => k_is)
    (case tp_InvalidPermutation => k_is)
    (case ip_InvalidPermutation => k_is)
    (case ea_InvalidPermutation => k_is)
    (case eb_InvalidPermutation => k_is)
    (case ecc_InvalidPermutation => k_is)
    (case ed_InvalidPermutation => k_is)
    (case ee_InvalidPermutation => k_is)
    (case ef_InvalidPermutation => k_is)
    (case eg_InvalidPermutation => k_is)
    (case n_TooLarge => k_is)
    (case kp_TooLarge => k_is)
    (case bp_TooLarge => k_is)
    (case tp_TooLarge => k_is)
    (case ip_TooLarge => k_is)
    (case ea_TooLarge => k_is)
    (case eb_TooLarge => k_is)
    (case ecc_TooLarge => k_is)
    (case ed_TooLarge => k_is)
    (case ee_TooLarge => k_is)
    (case ef_TooLarge => k_is)
    (case eg_TooLarge => k_is)
    (case s_InvalidPermutation_InvalidPermutation => k_is)
    (case s_InvalidPermutation_TableError => k_is)
    (case s_InvalidPermutation_TooLarge => k_is)
    (case s_InvalidPermutation_WrongKind => k_is)
    (case s_InvalidPermutation_WrongSize => k_is)
    (case s_TableError_InvalidPermutation => k_is)
    (case s_TableError_TableError => k_is)
    (case s_TableError_TooLarge => k_is)
    (case s_TableError_WrongKind => k_is)
    (case s_TableError_WrongSize => k_is)
    (case s_TooLarge_InvalidPermutation => k_is)
    (case s_TooLarge_TableError => k_is)
    (case s_TooLarge_TooLarge => k_is)
    (case s_TooLarge_WrongKind => k_is)
    (case s_TooLarge_WrongSize => k_is)
    (case s_WrongKind_InvalidPermutation => k_is)
    (case s_WrongKind_TableError => k_is)
    (case s_WrongKind_TooLarge => k_is)
    (case s_WrongKind_WrongKind => k_is)
    (case s_WrongKind_WrongSize => k_is)
    (case s_WrongSize_InvalidPermutation => k_is)
    (case s_WrongSize_TableError => k_is)
    (case s_WrongSize_TooLarge => k_is)
    (case s_WrongSize_WrongKind => k_is)
    (case s_WrongSize_WrongSize => k_is)
    (case n_SIZES => k_is)
    (case l_SIZES => k_is)
    (case z_abs => k_is)
    (case z_bool => k_is)
    (case z_enumerate => k_is)
    (case z_int => k_is)
    (case z_isinstance => k_is)
    (case z_len => k_is)
    (case z_list => k_is)
    (case z_max => k_is)
    (case z_min => k_is)
    (case z_range => k_is)
    (case z_sorted => k_is)
    (case z_sum => k_is)
    (case z_tuple => k_is)
