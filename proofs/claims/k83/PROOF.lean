import PyProof.Rows.All
import Wide.All
import OpenK.AllK
import Wide.FinOn
import HandS.ForMost
import HandS.ForExc
import HandS.CallSlots
import HandS.ExcIs
import HandS.TryOnly
import HandS.TupAny
import HandS.Deep
import HandS.IsInst
import HandS.Conv
import HandS.Zip
import HandS.SortKw
import HandS.TupMul
import KE.DataMinMax
import HandS.Walk
import HandS.Rev
import KE.GoesEnum
import HandS.DictComp
import HandS.Style
import PyProof.Rows.SortShellAny
import HandS.ExcValue
import HandS.RevTup
import HandS.NamedTupSort
import KE.KSortTupG
import KE.KDictDisplayH
import KE.KTupSum
import HandS.Strs
import PyProof.TupleOfSeq
import HandS.ExcOwn
import KE.KOpsOwn
import KE.KCallOwn
import HandS.ClsMeth
import HandS.Gcd
import HandS.Text
import HandS.FStr
import HandS.Wide
import HandS.WideBits
import HandS.Defaults
import KE.IntTextText
import PyProof.StrLawsFirst
import HandS.StrMore
import HandS.NoneIn
import HandS.OwnIter
import HandS.IterVal
import HandS.EndBits
import PySem.Challenge.RW_tablelaws_k83_lines_of_matrices
set_option Elab.async false
set_option linter.all false
set_option maxRecDepth 100000
set_option maxHeartbeats 4000000
namespace Fn
open PySem L2
/-- own values: what never changes is told by its content -/
inductive U where
  | non | bl (b : Bool) | int (i : Int) | str (x : Str) | ty (n : String)
  | tup (xs : List U)
  /-- a list that nobody changes any more -/
  | fl (xs : List U)
  /-- the script -/
  | scr (xs : List Int)
  /-- an instance that nobody changes any more -/
  | ob (c : Nat) (fs : List U)
  /-- the i-th object of the own heap -/
  | ref (i : Nat)
  /-- a tuple whose object is known, without a dict -/
  | tx (xs : List U)
  /-- a class of the program -/
  | cls (c : Nat)
inductive UO where
  | lst (xs : List U)
  | dk (kvs : List (Key × U))
  | dt (kvs : List (List Key × U))
  | ins (c : Nat) (fs : List U)
structure Exc where
  c : Nat
  fs : List U
/-- what is fixed through the law: the written part, the classes' addresses, their attributes in order -/
structure Cfg where
  K : PySem.W.Frag
  cl : Nat → Addr
  ly : Nat → List Str
  kt : List V → Prop
/-- a tuple at a; what kt does not let stands in the heap itself -/
def TH (G : Cfg) (H : Hp) (a : Addr) (vs : List V) : Prop := SqT G.K H a vs ∧ (G.kt vs ∨ H a = some (.tup vs))
theorem TH.new {G : Cfg} {H : Hp} {a : Addr} {vs : List V} (h : H a = some (.tup vs)) : TH G H a vs := ⟨SqT.of h, .inr h⟩
inductive Rs (α : Type) where
  | ok (a : α) (h : List UO)
  | ex (e : Exc) (h : List UO)
  | no
abbrev Lo := List (Option U)
inductive Rt where
  | nx (us : Lo) (h : List UO)
  | bk (us : Lo) (h : List UO)
  | ct (us : Lo) (h : List UO)
  | rt (u : U) (h : List UO)
  | ex (e : Exc) (us : Lo) (h : List UO)
  | no
/-- a call's end, nothing of the own heap within -/
inductive Rg where
  | ok (u : U)
  | ex (e : Exc)
  | no
structure Wd where
  Z : Addr → Prop
  r : List Addr
  h : List UO
  H : Hp
def Imm : HO → Prop
  | .tup _ => True
  | .frz _ _ => True
  | _ => False
structure Ext (w w' : Wd) : Prop where
  nw : ∃ nw, w'.r = w.r ++ nw ∧ ∀ a ∈ nw, w.H a = none
  zi : ∀ a, w'.Z a → w.Z a ∨ w.H a = none
  zs : ∀ a, w.Z a → w'.Z a
  keep : ∀ a o, w.H a = some o → (a ∉ w.r ∨ Imm o) → w'.H a = some o
  dom : ∀ a, w'.H a = none → w.H a = none
theorem Ext.refl (w : Wd) : Ext w w := ⟨⟨[], by simp, by simp⟩, fun _ h => .inl h, fun _ h => h, fun _ _ h _ => h, fun _ h => h⟩
theorem Ext.of_eq {w w' : Wd} (hZ : w'.Z = w.Z) (hr : w'.r = w.r) (hH : w'.H = w.H) : Ext w w' :=
  ⟨⟨[], by simp [hr], by simp⟩, fun a h => .inl (hZ ▸ h), fun a h => hZ ▸ h, fun a o h _ => by rw [hH]; exact h, fun a h => by rw [← hH]; exact h⟩
theorem Ext.trans {w w1 w2 : Wd} (a : Ext w w1) (b : Ext w1 w2) : Ext w w2 := by
  obtain ⟨n1, e1, f1⟩ := a.nw
  obtain ⟨n2, e2, f2⟩ := b.nw
  refine ⟨⟨n1 ++ n2, by rw [e2, e1, List.append_assoc], fun x hx => ?_⟩, fun x hx => ?_, fun x hx => b.zs x (a.zs x hx), fun x o h hi => ?_, fun x h => a.dom x (b.dom x h)⟩
  · rcases List.mem_append.mp hx with h | h
    · exact f1 x h
    · exact a.dom x (f2 x h)
  · rcases b.zi x hx with h | h
    · exact a.zi x h
    · exact .inr (a.dom x h)
  · refine b.keep x o (a.keep x o h hi) ?_
    rcases hi with hi | hi
    · refine .inl fun hm => ?_
      rw [e1] at hm
      rcases List.mem_append.mp hm with q | q
      · exact hi q
      · rw [f1 x q] at h; cases h
    · exact .inr hi
mutual
inductive R (G : Cfg) (w : Wd) : U → V → Prop
  | non : R G w .non .non
  | bl (b : Bool) : R G w (.bl b) (.bl b)
  | int (i : Int) : R G w (.int i) (.int i)
  | str (x : Str) : R G w (.str x) (.str x)
  | ty (n : String) : R G w (.ty n) (.ty n)
  | cls (c : Nat) : R G w (.cls c) (.ref (G.cl c))
  | tup {a : Addr} {us : List U} {vs : List V} : TH G w.H a vs → RL G w us vs → R G w (.tup us) (.ref a)
  | tx {a : Addr} {o : Obj} {us : List U} {vs : List V} : w.H a = some (.frz o (.tup vs)) → o.dict = none → RL G w us vs → R G w (.tx us) (.ref a)
  | fl {a : Addr} {us : List U} {vs : List V} : w.H a = some (.lst vs) → ¬ w.Z a → RL G w us vs → R G w (.fl us) (.ref a)
  | scr {a : Addr} {xs : List Int} : ((∃ o, w.H a = some (.frz o (.lst (xs.map V.int)))) ∨ ((∀ H : Hp, SqL G.K H a (xs.map V.int)))) → R G w (.scr xs) (.ref a)
  | ob {a dx : Addr} {c : Nat} {us : List U} {vs : List V} : w.H a = some (.ins (G.cl c) dx ((G.ly c).zip vs)) → ¬ w.Z a → vs.length = (G.ly c).length → RL G w us vs → R G w (.ob c us) (.ref a)
  | ref {i : Nat} {a : Addr} : w.r[i]? = some a → R G w (.ref i) (.ref a)
inductive RL (G : Cfg) (w : Wd) : List U → List V → Prop
  | nil : RL G w [] []
  | cons {u : U} {v : V} {us : List U} {vs : List V} : R G w u v → RL G w us vs → RL G w (u :: us) (v :: vs)
end
section
variable {G : Cfg} {w w' : Wd}
theorem Ext.get (e : Ext w w') {i : Nat} {a : Addr} (h : w.r[i]? = some a) : w'.r[i]? = some a := by
  obtain ⟨nw, e1, _⟩ := e.nw
  rw [e1, List.getElem?_append_left (List.getElem?_eq_some_iff.mp h).1]
  exact h
theorem Ext.sqT (e : Ext w w') {a : Addr} {vs : List V} (h : SqT G.K w.H a vs) : SqT G.K w'.H a vs := by
  rcases h with (h | ⟨o, h⟩) | h
  · exact .inl (.inl (e.keep a _ h (.inr trivial)))
  · exact .inl (.inr ⟨o, e.keep a _ h (.inr trivial)⟩)
  · exact .inr h
theorem Ext.th (e : Ext w w') {a : Addr} {vs : List V} (h : TH G w.H a vs) : TH G w'.H a vs := ⟨e.sqT h.1, h.2.imp id fun q => e.keep a _ q (.inr trivial)⟩
theorem Ext.nz (e : Ext w w') {a : Addr} {o : HO} (h : w.H a = some o) (n : ¬ w.Z a) : ¬ w'.Z a := fun z => by
  rcases e.zi a z with q | q
  · exact n q
  · rw [q] at h; cases h
/-- less is forbidden -/
structure Les (w w' : Wd) : Prop where
  z : ∀ a, w'.Z a → w.Z a
  r : ∀ (i : Nat) (a : Addr), w.r[i]? = some a → w'.r[i]? = some a
  H : w'.H = w.H
mutual
theorem R.les (e : Les w w') : ∀ {u : U} {v : V}, R G w u v → R G w' u v
  | _, _, .non => .non
  | _, _, .bl b => .bl b
  | _, _, .int b => .int b
  | _, _, .str b => .str b
  | _, _, .ty b => .ty b
  | _, _, .cls c => .cls c
  | _, _, .tup h l => .tup (e.H ▸ h) (RL.les e l)
  | _, _, .tx h d l => .tx (e.H ▸ h) d (RL.les e l)
  | _, _, .fl h n l => .fl (e.H ▸ h) (fun z => n (e.z _ z)) (RL.les e l)
  | _, _, .scr h => .scr (e.H ▸ h)
  | _, _, .ob h n hl l => .ob (e.H ▸ h) (fun z => n (e.z _ z)) hl (RL.les e l)
  | _, _, .ref h => .ref (e.r _ _ h)
theorem RL.les (e : Les w w') : ∀ {us : List U} {vs : List V}, RL G w us vs → RL G w' us vs
  | _, _, .nil => .nil
  | _, _, .cons h t => .cons (R.les e h) (RL.les e t)
end
mutual
theorem R.mono (e : Ext w w') (hz : ∀ a ∈ w.r, w.Z a) : ∀ {u : U} {v : V}, R G w u v → R G w' u v
  | _, _, .non => .non
  | _, _, .bl b => .bl b
  | _, _, .int b => .int b
  | _, _, .str b => .str b
  | _, _, .ty b => .ty b
  | _, _, .cls c => .cls c
  | _, _, .tup h l => .tup (e.th h) (RL.mono e hz l)
  | _, _, .tx h d l => .tx (e.keep _ _ h (.inr trivial)) d (RL.mono e hz l)
  | _, _, .fl h n l => .fl (e.keep _ _ h (.inl fun m => n (hz _ m))) (e.nz h n) (RL.mono e hz l)
  | _, _, .scr h => .scr (h.elim (fun ⟨o, q⟩ => .inl ⟨o, e.keep _ _ q (.inr trivial)⟩) .inr)
  | _, _, .ob h n hl l => .ob (e.keep _ _ h (.inl fun m => n (hz _ m))) (e.nz h n) hl (RL.mono e hz l)
  | _, _, .ref h => .ref (e.get h)
theorem RL.mono (e : Ext w w') (hz : ∀ a ∈ w.r, w.Z a) : ∀ {us : List U} {vs : List V}, RL G w us vs → RL G w' us vs
  | _, _, .nil => .nil
  | _, _, .cons h t => .cons (R.mono e hz h) (RL.mono e hz t)
end
/-- what a related value leans on -/
structure Mon (G : Cfg) (w w' : Wd) : Prop where
  tup : ∀ (a : Addr) (vs : List V), TH G w.H a vs → TH G w'.H a vs
  fl : ∀ (a : Addr) (vs : List V), w.H a = some (.lst vs) → ¬ w.Z a → w'.H a = some (.lst vs) ∧ ¬ w'.Z a
  scr : ∀ (a : Addr) (o : Obj) (u : HO), w.H a = some (.frz o u) → w'.H a = some (.frz o u)
  ob : ∀ (a C dx : Addr) (fs : List (Str × V)), w.H a = some (.ins C dx fs) → ¬ w.Z a → w'.H a = some (.ins C dx fs) ∧ ¬ w'.Z a
  r : ∀ (i : Nat) (a : Addr), w.r[i]? = some a → w'.r[i]? = some a
mutual
theorem R.mon (e : Mon G w w') : ∀ {u : U} {v : V}, R G w u v → R G w' u v
  | _, _, .non => .non
  | _, _, .bl b => .bl b
  | _, _, .int b => .int b
  | _, _, .str b => .str b
  | _, _, .ty b => .ty b
  | _, _, .cls c => .cls c
  | _, _, .tup h l => .tup (e.tup _ _ h) (RL.mon e l)
  | _, _, .tx h d l => .tx (e.scr _ _ _ h) d (RL.mon e l)
  | _, _, .fl h n l => .fl (e.fl _ _ h n).1 (e.fl _ _ h n).2 (RL.mon e l)
  | _, _, .scr h => .scr (h.elim (fun ⟨o, q⟩ => .inl ⟨o, e.scr _ _ _ q⟩) .inr)
  | _, _, .ob h n hl l => .ob (e.ob _ _ _ _ h n).1 (e.ob _ _ _ _ h n).2 hl (RL.mon e l)
  | _, _, .ref h => .ref (e.r _ _ h)
theorem RL.mon (e : Mon G w w') : ∀ {us : List U} {vs : List V}, RL G w us vs → RL G w' us vs
  | _, _, .nil => .nil
  | _, _, .cons h t => .cons (R.mon e h) (RL.mon e t)
end
end
/-- the own object o stands at a -/
inductive RO (G : Cfg) (w : Wd) (a : Addr) : UO → Prop
  | lst {us : List U} {vs : List V} : w.H a = some (.lst vs) → RL G w us vs → RO G w a (.lst us)
  | dk {us : List (Key × U)} {vs : List V} : w.H a = some (.dK ((us.map (·.1)).zip vs)) → RL G w (us.map (·.2)) vs → RO G w a (.dk us)
  | dt {us : List (List Key × U)} {vs : List V} : w.H a = some (.dT ((us.map (·.1)).zip vs)) → RL G w (us.map (·.2)) vs → RO G w a (.dt us)
  | ins {c : Nat} {dx : Addr} {us : List U} {vs : List V} : w.H a = some (.ins (G.cl c) dx ((G.ly c).zip vs)) → vs.length ≤ (G.ly c).length → RL G w us vs → RO G w a (.ins c us)
structure Sm (G : Cfg) (w : Wd) : Prop where
  len : w.r.length = w.h.length
  nd : w.r.Nodup
  z : ∀ a ∈ w.r, w.Z a
  dom : ∀ a, w.Z a → w.H a ≠ none
  obj : ∀ (i : Nat) (a : Addr) (o : UO), w.r[i]? = some a → w.h[i]? = some o → RO G w a o
section
variable {G : Cfg} {w w' : Wd}
theorem R.up (m : Sm G w) (e : Ext w w') {u : U} {v : V} (h : R G w u v) : R G w' u v := R.mono e m.z h
theorem RL.up (m : Sm G w) (e : Ext w w') {u : List U} {v : List V} (h : RL G w u v) : RL G w' u v := RL.mono e m.z h
theorem RL.length : ∀ {us : List U} {vs : List V}, RL G w us vs → us.length = vs.length
  | _, _, .nil => rfl
  | _, _, .cons _ t => by simp [RL.length t]
theorem RL.get : ∀ {us : List U} {vs : List V} {i : Nat} {u : U}, RL G w us vs → us[i]? = some u → ∃ v, vs[i]? = some v ∧ R G w u v
  | _, _, _, _, .nil, e => by simp at e
  | _, _, 0, _, .cons r _, e => by simp at e; subst e; exact ⟨_, rfl, r⟩
  | _, _, i + 1, x, .cons _ t, e => by
    obtain ⟨u, h1, h2⟩ := RL.get (i := i) (u := x) t (by simpa using e)
    exact ⟨u, by simpa using h1, h2⟩
theorem RL.getV : ∀ {us : List U} {vs : List V} {i : Nat} {v : V}, RL G w us vs → vs[i]? = some v → ∃ u, us[i]? = some u ∧ R G w u v
  | _, _, _, _, .nil, e => by simp at e
  | _, _, 0, _, .cons r _, e => by simp at e; subst e; exact ⟨_, rfl, r⟩
  | _, _, i + 1, x, .cons _ t, e => by
    obtain ⟨u, h1, h2⟩ := RL.getV (i := i) (v := x) t (by simpa using e)
    exact ⟨u, by simpa using h1, h2⟩
theorem RL.append : ∀ {us : List U} {vs : List V} {us2 : List U} {vs2 : List V}, RL G w us vs → RL G w us2 vs2 → RL G w (us ++ us2) (vs ++ vs2)
  | _, _, _, _, .nil, s => s
  | _, _, _, _, .cons r t, s => .cons r (RL.append t s)
theorem RL.one {u : U} {v : V} (h : R G w u v) : RL G w [u] [v] := .cons h .nil
theorem RL.set {u : U} {v : V} (h : R G w u v) : ∀ {us : List U} {vs : List V} (i : Nat), RL G w us vs → RL G w (us.set i u) (vs.set i v)
  | _, _, _, .nil => .nil
  | _, _, 0, .cons _ t => .cons h t
  | _, _, i + 1, .cons r t => .cons r (RL.set h i t)
theorem RL.take : ∀ {us : List U} {vs : List V} (n : Nat), RL G w us vs → RL G w (us.take n) (vs.take n)
  | _, _, 0, _ => .nil
  | _, _, _ + 1, .nil => .nil
  | _, _, n + 1, .cons r t => .cons r (RL.take n t)
theorem RL.drop : ∀ {us : List U} {vs : List V} (n : Nat), RL G w us vs → RL G w (us.drop n) (vs.drop n)
  | _, _, 0, r => r
  | _, _, _ + 1, .nil => .nil
  | _, _, n + 1, .cons _ t => RL.drop n t
theorem RL.reverse : ∀ {us : List U} {vs : List V}, RL G w us vs → RL G w us.reverse vs.reverse
  | _, _, .nil => .nil
  | _, _, .cons r t => by
    rw [List.reverse_cons, List.reverse_cons]
    exact RL.append (RL.reverse t) (.one r)
theorem RL.eraseIdx : ∀ {us : List U} {vs : List V} (i : Nat), RL G w us vs → RL G w (us.eraseIdx i) (vs.eraseIdx i)
  | _, _, _, .nil => .nil
  | _, _, 0, .cons _ t => t
  | _, _, i + 1, .cons r t => .cons r (RL.eraseIdx i t)
theorem RL.dropLast {us : List U} {vs : List V} (h : RL G w us vs) : RL G w us.dropLast vs.dropLast := by
  rw [List.dropLast_eq_take, List.dropLast_eq_take, h.length]
  exact h.take _
theorem RL.rep {us : List U} {vs : List V} (h : RL G w us vs) : ∀ k : Nat, RL G w (List.replicate k us).flatten (List.replicate k vs).flatten
  | 0 => .nil
  | k + 1 => by
    rw [List.replicate_succ, List.replicate_succ, List.flatten_cons, List.flatten_cons]
    exact h.append (RL.rep h k)
theorem RL.ints : ∀ {xs : List Int}, RL G w (xs.map U.int) (xs.map V.int)
  | [] => .nil
  | x :: r => .cons (.int x) RL.ints
theorem RO.up (m : Sm G w) (e : Ext w w') {a : Addr} {o : UO} (hk : ∀ b, w.H a = some b → w'.H a = some b) (h : RO G w a o) : RO G w' a o := by
  cases h with
  | lst h l => exact .lst (hk _ h) (l.up m e)
  | dk h l => exact .dk (hk _ h) (l.up m e)
  | dt h l => exact .dt (hk _ h) (l.up m e)
  | ins h hl l => exact .ins (hk _ h) hl (l.up m e)
end
/-- the slots -/
def SL (G : Cfg) (w : Wd) (us : Lo) (σ : L2.St) : Prop := us.length = σ.length ∧ ∀ (i : Nat) (u : U), us[i]? = some (some u) → ∃ v, σ[i]? = some (some v) ∧ R G w u v
section
variable {G : Cfg} {w w' : Wd} {us : Lo} {σ : L2.St}
theorem SL.up (m : Sm G w) (e : Ext w w') (h : SL G w us σ) : SL G w' us σ := ⟨h.1, fun i u q => let ⟨v, a, b⟩ := h.2 i u q; ⟨v, a, b.up m e⟩⟩
theorem SL.set (h : SL G w us σ) {u : U} {v : V} (r : R G w u v) (i : Nat) : SL G w (us.set i (some u)) (σ.set i (some v)) := by
  refine ⟨by simp [h.1], fun j x q => ?_⟩
  by_cases hj : i = j
  · subst hj
    by_cases hl : i < us.length
    · rw [List.getElem?_set_self hl] at q
      cases q
      exact ⟨v, List.getElem?_set_self (by rw [← h.1]; exact hl), r⟩
    · rw [List.getElem?_eq_none (by simpa using hl)] at q; cases q
  · rw [List.getElem?_set_ne hj] at q
    obtain ⟨y, a, b⟩ := h.2 j x q
    exact ⟨y, by rw [List.getElem?_set_ne hj]; exact a, b⟩
theorem SL.unset (h : SL G w us σ) (i : Nat) : SL G w (us.set i none) (σ.set i none) := by
  refine ⟨by simp [h.1], fun j x q => ?_⟩
  by_cases hj : i = j
  · subst hj
    by_cases hl : i < us.length
    · rw [List.getElem?_set_self hl] at q; cases q
    · rw [List.getElem?_eq_none (by simpa using hl)] at q; cases q
  · rw [List.getElem?_set_ne hj] at q
    obtain ⟨y, a, b⟩ := h.2 j x q
    exact ⟨y, by rw [List.getElem?_set_ne hj]; exact a, b⟩
def wipeU (us : Lo) : List Nat → Lo
  | [] => us
  | v :: vs => (wipeU us vs).set v none
theorem SL.wipe (h : SL G w us σ) : ∀ vs : List Nat, SL G w (wipeU us vs) (L2.wipe σ vs)
  | [] => h
  | v :: vs => by
    show SL G w ((wipeU us vs).set v none) ((L2.wipe σ vs).set v none)
    exact (SL.wipe h vs).unset v
end
/-- an exception's class and attributes -/
def RX (G : Cfg) (w : Wd) (e : Exc) (cls : Value) (d : Option Addr) : Prop :=
  cls = .ref (G.cl e.c) ∧ match e.fs with
    | [] => d = none
    | fs => ∃ dd vs, d = some dd ∧ w.H dd = some (.xd ((G.ly e.c).zip vs)) ∧ ¬ w.Z dd ∧ RL G w fs vs
theorem RX.up {G : Cfg} {w w' : Wd} (m : Sm G w) (e : Ext w w') {x : Exc} {cls : Value} {d : Option Addr} (h : RX G w x cls d) : RX G w' x cls d := by
  obtain ⟨c, fs⟩ := x
  obtain ⟨h1, h2⟩ := h
  refine ⟨h1, ?_⟩
  cases fs with
  | nil => exact h2
  | cons f r =>
    obtain ⟨dd, vs, a, b, c, l⟩ := h2
    exact ⟨dd, vs, a, e.keep _ _ b (.inl fun q => c (m.z _ q)), e.nz b c, l.up m e⟩
/-! ### what is wanted behind an evaluator -/
def Pt {α β : Type} (G : Cfg) (Rel : Wd → α → β → Prop) (W : WX) (σ : L2.St) (w : Wd) (r : Rs α) (Q : β → Hp → Prop) : Prop :=
  match r with
  | .ok a h => ∀ (w' : Wd) (b : β), w'.h = h → Ext w w' → Sm G w' → Rel w' a b → Q b w'.H
  | .ex e h => ∀ (w' : Wd) (cls : Value) (d : Option Addr), w'.h = h → Ext w w' → Sm G w' → RX G w' e cls d → W cls d σ w'.H
  | .no => False
def tX {α β : Type} (G : Cfg) (Rel : Wd → α → β → Prop) (f : Lo → List UO → Rs α) (W : WX) : L2.St → Hp → (β → Hp → Prop) → Prop := fun σ H Q =>
  ∃ us w, w.H = H ∧ Sm G w ∧ SL G w us σ ∧ Pt G Rel W σ w (f us w.h) Q
abbrev Ev := Lo → List UO → Rs U
abbrev tE (G : Cfg) (f : Ev) (W : WX) : TE := tX G (R G) f W
abbrev EvB := Lo → List UO → Rs Bool
abbrev tT (G : Cfg) (f : EvB) (W : WX) : TT := tX G (fun _ (a b : Bool) => a = b) f W
abbrev EvA := Lo → List UO → Rs (List U)
abbrev tA (G : Cfg) (f : EvA) (W : WX) : TA := tX G (RL G) f W
abbrev EvO := Lo → List UO → Rs (Option Int)
abbrev tO (G : Cfg) (f : EvO) (W : WX) : TO := tX G (fun _ (a b : Option Int) => a = b) f W
def Rs.bind {α β : Type} (r : Rs α) (k : α → List UO → Rs β) : Rs β :=
  match r with
  | .ok a h => k a h
  | .ex e h => .ex e h
  | .no => .no
section
variable {α β γ δ : Type} {G : Cfg} {Rel : Wd → α → β → Prop} {Rel' : Wd → γ → δ → Prop} {W : WX} {σ : L2.St} {w w1 : Wd}
theorem Pt.weak {r : Rs α} {Q : β → Hp → Prop} (e : Ext w w1) (h : Pt G Rel W σ w r Q) : Pt G Rel W σ w1 r Q := by
  cases r with
  | ok a hh => exact fun w' b e1 e2 => h w' b e1 (e.trans e2)
  | ex x hh => exact fun w' c d e1 e2 => h w' c d e1 (e.trans e2)
  | no => exact h
theorem Pt.bind {r : Rs α} {k : α → List UO → Rs γ} {Q : δ → Hp → Prop} (h : Pt G Rel' W σ w (r.bind k) Q) :
    Pt G Rel W σ w r fun b H1 => ∃ w1 a, w1.H = H1 ∧ Ext w w1 ∧ Sm G w1 ∧ Rel w1 a b ∧ Pt G Rel' W σ w1 (k a w1.h) Q := by
  cases r with
  | ok a hh =>
    intro w' b e1 e2 m rl
    subst e1
    exact ⟨w', a, rfl, e2, m, rl, Pt.weak e2 h⟩
  | ex x hh => exact h
  | no => exact h
theorem Pt.imp {r : Rs α} {Q Q' : β → Hp → Prop} (h : Pt G Rel W σ w r Q) (hq : ∀ b H, Q b H → Q' b H) : Pt G Rel W σ w r Q' := by
  cases r with
  | ok a hh => exact fun w' b e1 e2 m rl => hq _ _ (h w' b e1 e2 m rl)
  | ex x hh => exact h
  | no => exact h
theorem Pt.fin {a : α} {hh : List UO} {Q : β → Hp → Prop} (h : Pt G Rel W σ w (.ok a hh) Q) (w' : Wd) (b : β) (e : w'.h = hh) (x : Ext w w') (m : Sm G w') (r : Rel w' a b) : Q b w'.H := h w' b e x m r
/-- nothing changes -/
theorem Pt.here {a : α} {Q : β → Hp → Prop} (h : Pt G Rel W σ w (.ok a w.h) Q) (m : Sm G w) {b : β} (r : Rel w a b) : Q b w.H := h w b rfl (Ext.refl w) m r
end
theorem PE.imp {X : Cx} {e : Expr} {t t' : TE} (h : PE X e t) (i : ∀ σ H Q, t' σ H Q → t σ H Q) : PE X e t' := ⟨fun pins s σ H Q I q => h.run pins s σ H Q I (i σ H Q q)⟩
theorem PT.imp {X : Cx} {e : Expr} {t t' : TT} (h : PT X e t) (i : ∀ σ H Q, t' σ H Q → t σ H Q) : PT X e t' := ⟨fun pins s σ H Q I q => h.run pins s σ H Q I (i σ H Q q)⟩
theorem PA.imp {X : Cx} {e : List Expr} {t t' : TA} (h : PA X e t) (i : ∀ σ H Q, t' σ H Q → t σ H Q) : PA X e t' := ⟨fun pos pins s σ H Q I q => h.run pos pins s σ H Q I (i σ H Q q)⟩
theorem PO.imp {X : Cx} {e : Option Expr} {t t' : TO} (h : PO X e t) (i : ∀ σ H Q, t' σ H Q → t σ H Q) : PO X e t' := by
  constructor
  intro pins s σ H Q I q
  exact h.run pins s σ H Q I (i σ H _ q)
theorem PS.imp {X : Cx} {e : Stmt} {t t' : TS} (h : PS X e t) (i : ∀ D σ H, t' D σ H → t D σ H) : PS X e t' := ⟨fun pins s σ H D I q => h.run pins s σ H D I (i D σ H q)⟩
theorem PSs.imp {X : Cx} {e : List Stmt} {t t' : TS} (h : PSs X e t) (i : ∀ D σ H, t' D σ H → t D σ H) : PSs X e t' := ⟨fun pins s σ H D I q => h.run pins s σ H D I (i D σ H q)⟩
theorem PG.imp {X : Cx} {e : Expr} {t t' : TG} (h : PG X e t) (i : ∀ v σ H Q, t' v σ H Q → t v σ H Q) : PG X e t' := ⟨fun pins s σ H v u Q I r q => h.run pins s σ H v u Q I r (i v σ H Q q)⟩
theorem PI.imp {X : Cx} {tg e : Expr} {t t' : TI} (h : PI X tg e t) (i : ∀ σ H Q, t' σ H Q → t σ H Q) : PI X tg e t' := ⟨fun pins s σ H Q I q => h.run pins s σ H Q I (i σ H Q q)⟩
theorem PTs.imp {X : Cx} {e : List Expr} {t t' : TT} (h : PTs X e t) (i : ∀ σ H Q, t' σ H Q → t σ H Q) : PTs X e t' := ⟨fun pins s σ H Q I q => h.run pins s σ H Q I (i σ H Q q)⟩
end Fn
namespace Fn
open PySem L2
/-! ### steps of the world -/
def Wd.new (w : Wd) (p : Addr) (o : HO) : Wd := { w with H := upd w.H p o }
def Wd.newZ (w : Wd) (p : Addr) (o : HO) : Wd := { w with Z := fun a => w.Z a ∨ a = p, H := upd w.H p o }
def Wd.put (w : Wd) (i : Nat) (a : Addr) (o : UO) (ho : HO) : Wd := { w with h := w.h.set i o, H := upd w.H a ho }
section
variable {G : Cfg} {w : Wd} {p a : Addr} {o : HO} {i : Nat}
theorem Ext.new (hp : w.H p = none) : Ext w (w.new p o) :=
  ⟨⟨[], by simp [Wd.new], by simp⟩, fun _ h => .inl h, fun _ h => h, fun b x h _ => by
    show upd w.H p o b = _
    rw [upd_ne (ne_of_none h hp)]; exact h, fun b h => by
    have h : upd w.H p o b = none := h
    by_cases e : b = p
    · subst e; rw [upd_same] at h; cases h
    · rwa [upd_ne e] at h⟩
theorem Ext.newZ (hp : w.H p = none) : Ext w (w.newZ p o) :=
  ⟨⟨[], by simp [Wd.newZ], by simp⟩, fun b h => h.elim .inl fun e => .inr (e ▸ hp), fun _ h => .inl h, fun b x h _ => by
    show upd w.H p o b = _
    rw [upd_ne (ne_of_none h hp)]; exact h, fun b h => by
    have h : upd w.H p o b = none := h
    by_cases e : b = p
    · subst e; rw [upd_same] at h; cases h
    · rwa [upd_ne e] at h⟩
theorem Sm.new (m : Sm G w) (hp : w.H p = none) : Sm G (w.new p o) :=
  ⟨m.len, m.nd, m.z, fun b h => by
    show upd w.H p o b ≠ none
    by_cases e : b = p
    · subst e; rw [upd_same]; simp
    · rw [upd_ne e]; exact m.dom b h, fun i b x h1 h2 => (m.obj i b x h1 h2).up m (Ext.new hp) fun y q => by
    show upd w.H p o b = _
    rw [upd_ne (ne_of_none q hp)]; exact q⟩
theorem Sm.newZ (m : Sm G w) (hp : w.H p = none) : Sm G (w.newZ p o) :=
  ⟨m.len, m.nd, fun b h => .inl (m.z b h), fun b h => by
    show upd w.H p o b ≠ none
    by_cases e : b = p
    · subst e; rw [upd_same]; simp
    · rw [upd_ne e]; exact m.dom b (h.resolve_right e), fun i b x h1 h2 => (m.obj i b x h1 h2).up m (Ext.newZ hp) fun y q => by
    show upd w.H p o b = _
    rw [upd_ne (ne_of_none q hp)]; exact q⟩
theorem Sm.free_r (m : Sm G w) (hp : w.H p = none) : p ∉ w.r := fun h => m.dom p (m.z p h) hp
theorem Sm.free_z (m : Sm G w) (hp : w.H p = none) : ¬ w.Z p := fun h => m.dom p h hp
/-- a tracked object is changed -/
theorem RO.notImm {x : UO} (h : RO G w a x) : ∃ o, w.H a = some o ∧ ¬ Imm o := by
  cases h with
  | lst h _ => exact ⟨_, h, fun z => z⟩
  | dk h _ => exact ⟨_, h, fun z => z⟩
  | dt h _ => exact ⟨_, h, fun z => z⟩
  | ins h _ _ => exact ⟨_, h, fun z => z⟩
theorem Ext.put {x x' : UO} {ho : HO} (m : Sm G w) (hr : w.r[i]? = some a) (hx : w.h[i]? = some x) : Ext w (w.put i a x' ho) := by
  obtain ⟨o, ho1, ho2⟩ := (m.obj i a x hr hx).notImm
  have ha : a ∈ w.r := List.mem_of_getElem? hr
  refine ⟨⟨[], by simp [Wd.put], by simp⟩, fun _ h => .inl h, fun _ h => h, fun b y h hi => ?_, fun b h => ?_⟩
  · show upd w.H a ho b = _
    have : b ≠ a := by
      rintro rfl
      rcases hi with q | q
      · exact q ha
      · rw [ho1] at h; cases h; exact ho2 q
    rw [upd_ne this]; exact h
  · have h : upd w.H a ho b = none := h
    by_cases e : b = a
    · subst e; rw [upd_same] at h; cases h
    · rwa [upd_ne e] at h
theorem Sm.put {x x' : UO} {ho : HO} (m : Sm G w) (hr : w.r[i]? = some a) (hx : w.h[i]? = some x) (new : RO G (w.put i a x' ho) a x') : Sm G (w.put i a x' ho) := by
  have e := Ext.put (x' := x') (ho := ho) m hr hx
  refine ⟨by simp [Wd.put, m.len], m.nd, m.z, fun b h => ?_, fun j b y h1 h2 => ?_⟩
  · show upd w.H a ho b ≠ none
    by_cases q : b = a
    · subst q; rw [upd_same]; simp
    · rw [upd_ne q]; exact m.dom b h
  · have h1 : w.r[j]? = some b := h1
    have h2 : (w.h.set i x')[j]? = some y := h2
    by_cases hj : i = j
    · subst hj
      rw [hr] at h1; cases h1
      rw [List.getElem?_set_self (List.getElem?_eq_some_iff.mp hx).1] at h2
      cases h2
      exact new
    · rw [List.getElem?_set_ne hj] at h2
      refine (m.obj j b y h1 h2).up m e fun z q => ?_
      have : b ≠ a := by
        rintro rfl
        obtain ⟨l1, e1⟩ := List.getElem?_eq_some_iff.mp h1
        obtain ⟨l2, e2⟩ := List.getElem?_eq_some_iff.mp hr
        exact hj ((List.getElem_inj m.nd).mp (e2.trans e1.symm))
      show upd w.H a ho b = _
      rw [upd_ne this]; exact q
end
/-! ### new lists -/
def PtN (G : Cfg) (W : WX) (σ : L2.St) (w : Wd) (r : Rs (List U)) (Q : VK) : Prop :=
  match r with
  | .ok xs h => ∀ (w' : Wd) (p : Addr) (vs : List V), w'.h = h → Ext w w' → Sm G w' → RL G w' xs vs → w'.H p = some (.lst vs) → w.H p = none → w'.Z p → p ∉ w'.r → Q (.ref p) w'.H
  | .ex e h => ∀ (w' : Wd) (cls : Value) (d : Option Addr), w'.h = h → Ext w w' → Sm G w' → RX G w' e cls d → W cls d σ w'.H
  | .no => False
abbrev EvL := Lo → List UO → Rs (List U)
def tN (G : Cfg) (f : EvL) (W : WX) : TE := fun σ H Q => ∃ us w, w.H = H ∧ Sm G w ∧ SL G w us σ ∧ PtN G W σ w (f us w.h) Q
def eF (f : EvL) : Ev := fun us h => (f us h).bind fun xs h1 => .ok (.fl xs) h1
def eT (f : EvL) : Ev := fun us h => (f us h).bind fun xs h1 => .ok (.ref h1.length) (h1 ++ [.lst xs])
section
variable {G : Cfg} {w w' : Wd} {W : WX} {σ : L2.St}
/-- the new list is nobody's: it is read alone from here on -/
theorem toFrozen {xs : List U} {p : Addr} {vs : List V} (m0 : Sm G w) (e : Ext w w') (m : Sm G w') (l : RL G w' xs vs) (hp : w'.H p = some (.lst vs)) (hn : w.H p = none) (hr : p ∉ w'.r) :
    ∃ w'' : Wd, w''.h = w'.h ∧ w''.H = w'.H ∧ Ext w w'' ∧ Sm G w'' ∧ R G w'' (.fl xs) (.ref p) := by
  have hle : Les w' { w' with Z := fun a => w'.Z a ∧ a ≠ p } := ⟨fun a h => h.1, fun _ _ h => h, rfl⟩
  refine ⟨{ w' with Z := fun a => w'.Z a ∧ a ≠ p }, rfl, rfl, ⟨e.nw, fun a h => e.zi a h.1, fun a h => ⟨e.zs a h, fun z => m0.free_z hn (z ▸ h)⟩, e.keep, e.dom⟩, ⟨m.len, m.nd, fun a h => ⟨m.z a h, fun z => hr (z ▸ h)⟩, fun a h => m.dom a h.1, fun i a o h1 h2 => ?_⟩, .fl hp (fun z => z.2 rfl) (l.les hle)⟩
  cases m.obj i a o h1 h2 with
  | lst h l => exact .lst h (l.les hle)
  | dk h l => exact .dk h (l.les hle)
  | dt h l => exact .dt h (l.les hle)
  | ins h hl l => exact .ins h hl (l.les hle)
/-- it is tracked from here on -/
theorem toTracked {xs : List U} {p : Addr} {vs : List V} (e : Ext w w') (m : Sm G w') (l : RL G w' xs vs) (hp : w'.H p = some (.lst vs)) (hn : w.H p = none) (hz : w'.Z p) (hr : p ∉ w'.r) :
    ∃ w'' : Wd, w''.h = w'.h ++ [.lst xs] ∧ w''.H = w'.H ∧ Ext w w'' ∧ Sm G w'' ∧ R G w'' (.ref w'.h.length) (.ref p) := by
  have hle : Les w' { w' with r := w'.r ++ [p], h := w'.h ++ [.lst xs] } := ⟨fun a h => h, fun i a h => by
    show (w'.r ++ [p])[i]? = some a
    rw [List.getElem?_append_left (List.getElem?_eq_some_iff.mp h).1]; exact h, rfl⟩
  refine ⟨{ w' with r := w'.r ++ [p], h := w'.h ++ [.lst xs] }, rfl, rfl, ⟨?_, e.zi, e.zs, e.keep, e.dom⟩, ⟨by simp [m.len], ?_, fun a h => ?_, m.dom, fun i a o h1 h2 => ?_⟩, .ref ?_⟩
  · obtain ⟨nw, e1, e2⟩ := e.nw
    refine ⟨nw ++ [p], by show w'.r ++ [p] = _; rw [e1, List.append_assoc], fun a ha => ?_⟩
    rcases List.mem_append.mp ha with q | q
    · exact e2 a q
    · rw [List.mem_singleton.mp q]; exact hn
  · show (w'.r ++ [p]).Nodup
    rw [List.nodup_append]
    exact ⟨m.nd, by simp, fun a ha b hb => by rw [List.mem_singleton.mp hb]; exact fun z => hr (z ▸ ha)⟩
  · rcases List.mem_append.mp (show a ∈ w'.r ++ [p] from h) with q | q
    · exact m.z a q
    · rw [List.mem_singleton.mp q]; exact hz
  · have h1 : (w'.r ++ [p])[i]? = some a := h1
    have h2 : (w'.h ++ [UO.lst xs])[i]? = some o := h2
    by_cases hi : i < w'.h.length
    · rw [List.getElem?_append_left (by rw [m.len]; exact hi)] at h1
      rw [List.getElem?_append_left hi] at h2
      cases m.obj i a o h1 h2 with
      | lst h l => exact .lst h (l.les hle)
      | dk h l => exact .dk h (l.les hle)
      | dt h l => exact .dt h (l.les hle)
      | ins h hl l => exact .ins h hl (l.les hle)
    · have hi2 : i = w'.h.length := by
        have := (List.getElem?_eq_some_iff.mp h2).1
        simp at this
        omega
      subst hi2
      rw [List.getElem?_append_right (by rw [m.len]; exact Nat.le_refl _), m.len, Nat.sub_self] at h1
      rw [List.getElem?_append_right (Nat.le_refl _), Nat.sub_self] at h2
      cases h1
      cases h2
      exact .lst hp (l.les hle)
  · show (w'.r ++ [p])[w'.h.length]? = some p
    rw [List.getElem?_append_right (by rw [m.len]; exact Nat.le_refl _), m.len, Nat.sub_self]
    rfl
theorem tN_eF {f : EvL} {H : Hp} {Q : VK} (h : tE G (eF f) W σ H Q) : tN G f W σ H Q := by
  obtain ⟨us, w, rfl, m, sl, h⟩ := h
  refine ⟨us, w, rfl, m, sl, ?_⟩
  unfold eF at h
  cases e : f us w.h with
  | ok xs hh =>
    rw [e] at h
    intro w' p vs e1 e2 m' l hp hn hz hr
    obtain ⟨w'', a, b, c, d, r⟩ := toFrozen m e2 m' l hp hn hr
    rw [← b]
    exact h w'' _ (a.trans e1) c d r
  | ex x hh => rw [e] at h; exact h
  | no => rw [e] at h; exact h
theorem tN_eT {f : EvL} {H : Hp} {Q : VK} (h : tE G (eT f) W σ H Q) : tN G f W σ H Q := by
  obtain ⟨us, w, rfl, m, sl, h⟩ := h
  refine ⟨us, w, rfl, m, sl, ?_⟩
  unfold eT at h
  cases e : f us w.h with
  | ok xs hh =>
    rw [e] at h
    intro w' p vs e1 e2 m' l hp hn hz hr
    obtain ⟨w'', a, b, c, d, r⟩ := toTracked e2 m' l hp hn hz hr
    subst e1
    rw [← b]
    exact h w'' _ a c d r
  | ex x hh => rw [e] at h; exact h
  | no => rw [e] at h; exact h
theorem f_fz {X : Cx} {e : Expr} {f : EvL} (h : PE X e (tN G f W)) : PE X e (tE G (eF f) W) := PE.imp h fun _ _ _ => tN_eF
theorem f_tr {X : Cx} {e : Expr} {f : EvL} (h : PE X e (tN G f W)) : PE X e (tE G (eT f) W) := PE.imp h fun _ _ _ => tN_eT
/-- a list has just been laid -/
theorem newL {w w1 : Wd} {xs : List U} {vs : List V} {h : List UO} {Q : VK} (e : Ext w w1) (m : Sm G w1) (l : RL G w1 xs vs) (eh : w1.h = h) (q : PtN G W σ w (.ok xs h) Q) {p : Addr} (hp : w1.H p = none) : Q (.ref p) (upd w1.H p (.lst vs)) :=
  q (w1.newZ p (.lst vs)) p vs eh (e.trans (Ext.newZ hp)) (m.newZ hp) (l.up m (Ext.newZ hp)) upd_same (e.dom p hp) (.inr rfl) (m.free_r hp)
/-- a tuple has just been laid -/
theorem newT {w : Wd} {xs : List U} {vs : List V} {h : List UO} {Q : VK} (m : Sm G w) (l : RL G w xs vs) (eh : w.h = h) (q : Pt G (R G) W σ w (.ok (.tup xs) h) Q) {p : Addr} (hp : w.H p = none) : Q (.ref p) (upd w.H p (.tup vs)) :=
  q (w.new p (.tup vs)) (.ref p) eh (Ext.new hp) (m.new hp) (.tup (.new upd_same) (l.up m (Ext.new hp)))
end
/-! ### reading sequences -/
def szOk (n : Nat) : Bool := Nat.ble n 16777216
theorem szOk_le {n : Nat} (h : szOk n = true) : n ≤ sizeLine := by rw [sizeLine_eq]; exact Nat.le_of_ble_eq_true h
/-- lists but the script -/
def lstH (h : List UO) : U → Option (List U)
  | .fl xs => some xs
  | .ref i => match h[i]? with | some (.lst xs) => some xs | _ => none
  | _ => none
def lstU (h : List UO) : U → Option (List U)
  | .fl xs => some xs
  | .scr xs => some (xs.map U.int)
  | .ref i => match h[i]? with | some (.lst xs) => some xs | _ => none
  | _ => none
section
variable {G : Cfg} {w : Wd}
theorem lstH_of (m : Sm G w) {u : U} {v : V} {xs : List U} (r : R G w u v) (h : lstH w.h u = some xs) : ∃ a vs, v = .ref a ∧ w.H a = some (.lst vs) ∧ RL G w xs vs := by
  cases r with
  | fl h1 h2 l => cases h; exact ⟨_, _, rfl, h1, l⟩
  | @ref i a h1 =>
    have h : (match w.h[i]? with | some (.lst xs) => some xs | _ => none) = some xs := h
    split at h
    · rename_i ys q
      cases h
      cases m.obj _ _ _ h1 q with
      | lst h2 l => exact ⟨_, _, rfl, h2, l⟩
    · cases h
  | _ => cases h
theorem lstU_of (m : Sm G w) {u : U} {v : V} {xs : List U} (r : R G w u v) (h : lstU w.h u = some xs) : ∃ a vs, v = .ref a ∧ SqL G.K w.H a vs ∧ RL G w xs vs := by
  cases r with
  | fl h1 h2 l => cases h; exact ⟨_, _, rfl, .inl (.inl h1), l⟩
  | scr h1 =>
    cases h
    rcases h1 with ⟨o, h1⟩ | h1
    · exact ⟨_, _, rfl, .inl (.inr ⟨o, h1⟩), RL.ints⟩
    · exact ⟨_, _, rfl, h1 _, RL.ints⟩
  | @ref i a h1 =>
    have h : (match w.h[i]? with | some (.lst xs) => some xs | _ => none) = some xs := h
    split at h
    · rename_i ys q
      cases h
      cases m.obj _ _ _ h1 q with
      | lst h2 l => exact ⟨_, _, rfl, .inl (.inl h2), l⟩
    · cases h
  | _ => cases h
/-- a list or a tuple -/
def seqU (h : List UO) : U → Option (List U)
  | .tup xs => some xs
  | u => lstU h u
theorem seqU_of (m : Sm G w) {u : U} {v : V} {xs : List U} (r : R G w u v) (h : seqU w.h u = some xs) : ∃ a vs, v = .ref a ∧ (SqL G.K w.H a vs ∨ SqT G.K w.H a vs) ∧ RL G w xs vs := by
  cases r with
  | tup h1 l => cases h; exact ⟨_, _, rfl, .inr h1.1, l⟩
  | fl h1 h2 l => obtain ⟨a, vs, e, x, y⟩ := lstU_of m (.fl h1 h2 l) h; exact ⟨a, vs, e, .inl x, y⟩
  | scr h1 => obtain ⟨a, vs, e, x, y⟩ := lstU_of m (.scr h1) h; exact ⟨a, vs, e, .inl x, y⟩
  | ref h1 => obtain ⟨a, vs, e, x, y⟩ := lstU_of m (.ref h1) h; exact ⟨a, vs, e, .inl x, y⟩
  | _ => cases h
end
/-! ### the forms -/
def e1 (k : U → List UO → Rs U) (fa : Ev) : Ev := fun us h => (fa us h).bind k
def e2 (k : U → U → List UO → Rs U) (fa fb : Ev) : Ev := fun us h => (fa us h).bind fun a h1 => (fb us h1).bind fun b h2 => k a b h2
def Op1 (G : Cfg) (r : V → Hp → VK → Prop) (k : U → List UO → Rs U) : Prop := ∀ (w : Wd) (σ : L2.St) (W : WX) (x : U) (a : V) (Q : VK), Sm G w → R G w x a → Pt G (R G) W σ w (k x w.h) Q → r a w.H Q
def Op2 (G : Cfg) (r : R2) (k : U → U → List UO → Rs U) : Prop := ∀ (w : Wd) (σ : L2.St) (W : WX) (x y : U) (a b : V) (Q : VK), Sm G w → R G w x a → R G w y b → Pt G (R G) W σ w (k x y w.h) Q → r a b w.H Q
section
variable {G : Cfg} {W : WX} {σ : L2.St} {H : Hp} {Q : VK} {fa fb : Ev}
theorem one_of {r : V → Hp → VK → Prop} {k : U → List UO → Rs U} (hk : Op1 G r k) (h : tE G (e1 k fa) W σ H Q) : tE G fa W σ H fun x H1 => r x H1 Q := by
  obtain ⟨us, w, rfl, m, sl, h⟩ := h
  refine ⟨us, w, rfl, m, sl, (Pt.bind h).imp ?_⟩
  rintro x H1 ⟨w1, a, rfl, e1, m1, r1, h1⟩
  exact hk w1 σ W a x Q m1 r1 h1
theorem two_of {r : R2} {k : U → U → List UO → Rs U} (hk : Op2 G r k) (h : tE G (e2 k fa fb) W σ H Q) : tE G fa W σ H fun x H1 => tE G fb W σ H1 fun y H2 => r x y H2 Q := by
  obtain ⟨us, w, rfl, m, sl, h⟩ := h
  refine ⟨us, w, rfl, m, sl, (Pt.bind h).imp ?_⟩
  rintro x H1 ⟨w1, a, rfl, e1, m1, r1, h1⟩
  refine ⟨us, w1, rfl, m1, sl.up m e1, (Pt.bind h1).imp ?_⟩
  rintro y H2 ⟨w2, b, rfl, e2, m2, r2, h2⟩
  exact hk w2 σ W a b x y Q m2 (r1.up m1 e2) r2 h2
end
section
variable {X : Cx} {G : Cfg} {W : WX} {a b : Expr} {fa fb : Ev} {pos : Pos}
theorem f_op2 {op : Operator} {r : R2} {k : U → U → List UO → Rs U} (ho : OpR X (binaryOp op) r) (hk : Op2 G r k) (ha : PE X a (tE G fa W)) (hb : PE X b (tE G fb W)) : PE X (.BinOp a op b pos) (tE G (e2 k fa fb) W) :=
  PE.imp (pe_op ho ha hb) fun _ _ _ h => two_of hk h
theorem f_un {op : UnaryOp} {r : V → Hp → VK → Prop} {k : U → List UO → Rs U} (ho : UnR X (unaryOp op) r) (hk : Op1 G r k) (ha : PE X a (tE G fa W)) : PE X (.UnaryOp op a pos) (tE G (e1 k fa) W) :=
  PE.imp (pe_un ho ha) fun _ _ _ h => one_of hk h
theorem f_cmp {op : CmpOp} {r : R2} {k : U → U → List UO → Rs U} (ho : OpR X (compareOp op) r) (hk : Op2 G r k) (ha : PE X a (tE G fa W)) (hb : PE X b (tE G fb W)) (hm : behindInMarks op b = false) : PE X (.Compare a [op] [b] pos) (tE G (e2 k fa fb) W) :=
  PE.imp (pe_cmpR ho ha hb hm) fun _ _ _ h => two_of hk h
/-- a value that is a bool, as a test -/
def bE (f : Ev) : EvB := fun us h => (f us h).bind fun u h1 => match u with | .bl c => .ok c h1 | _ => .no
theorem bE_of {t : TE} {σ : L2.St} {H : Hp} {Q : Bool → Hp → Prop} {f : Ev} (ht : ∀ Q', tE G f W σ H Q' → t σ H Q') (h : tT G (bE f) W σ H Q) : t σ H fun x H1 => ∃ c, x = .bl c ∧ Q c H1 := by
  obtain ⟨us, w, rfl, m, sl, h⟩ := h
  refine ht _ ⟨us, w, rfl, m, sl, (Pt.bind h).imp ?_⟩
  rintro x H1 ⟨w1, a, rfl, e1, m1, r1, h1⟩
  cases r1 with
  | bl c => exact ⟨c, rfl, h1 w1 c rfl (Ext.refl _) m1 rfl⟩
  | _ => exact False.elim h1
theorem t_cmp {op : CmpOp} {r : R2} {k : U → U → List UO → Rs U} (ho : OpR X (compareOp op) r) (hk : Op2 G r k) (ha : PE X a (tE G fa W)) (hb : PE X b (tE G fb W)) (hm : behindInMarks op b = false) : PT X (.Compare a [op] [b] pos) (tT G (bE (e2 k fa fb)) W) :=
  PT.imp (pt_cmpR ho ha hb hm) fun _ _ _ h => bE_of (t := tOp r (tE G fa W) (tE G fb W)) (fun _ q => two_of hk q) h
theorem t_val {e : Expr} {f : Ev} (h : PE X e (tE G f W)) (he : ∀ whole, isTrue e X.env whole = (do let v ← whole; standAt e.pos; holding [v] (truthy v)) := by intro _; rfl) : PT X e (tT G (bE f) W) :=
  PT.imp (pt_val h he) fun _ _ _ h => bE_of (t := tE G f W) (fun _ q => q) h
/-! ### names and constants -/
def eVar (i : Nat) : Ev := fun us h => match us[i]? with | some (some u) => .ok u h | _ => .no
def eC (u : U) : Ev := fun _ h => .ok u h
theorem f_var {i : Nat} {x : Str} {pos : Pos} (hN : X.N[i]? = some x := by rfl) (hv : Vis X.env.scope x := by first | exact Or.inl rfl | exact Or.inr (Or.inl rfl) | exact Or.inr (Or.inr rfl)) (hd : (x == ("__debug__" : Str)) = false := by decide)
    (hcd : (x == ("__classdict__" : Str)) = false := by decide) : PE X (.Name x pos) (tE G (eVar i) W) :=
  PE.imp (pe_var (i := i) hN hv hd hcd) fun σ H Q ⟨us, w, e, m, sl, h⟩ => by
    subst e
    unfold eVar at h
    split at h
    · rename_i u q
      obtain ⟨v, e1, r⟩ := sl.2 i u q
      exact ⟨v, e1, h w v rfl (Ext.refl w) m r⟩
    · exact h.elim
theorem c_of {u : U} {v : V} {σ : L2.St} {H : Hp} {Q : VK} (r : ∀ w, R G w u v) (h : tE G (eC u) W σ H Q) : Q v H := by
  obtain ⟨us, w, rfl, m, sl, h⟩ := h
  exact h w v rfl (Ext.refl w) m (r w)
theorem f_int {i j pos} : PE X (.Constant (.int i) j pos) (tE G (eC (.int i)) W) := PE.imp pe_int fun _ _ _ h => c_of (fun _ => .int i) h
theorem f_bl {b j pos} : PE X (.Constant (.bool b) j pos) (tE G (eC (.bl b)) W) := PE.imp pe_bl fun _ _ _ h => c_of (fun _ => .bl b) h
theorem f_non {j pos} : PE X (.Constant .none j pos) (tE G (eC .non) W) := PE.imp pe_non fun _ _ _ h => c_of (fun _ => .non) h
theorem f_str {x j pos} : PE X (.Constant (.str x) j pos) (tE G (eC (.str x)) W) := PE.imp pe_str fun _ _ _ h => c_of (fun _ => .str x) h
/-- a built-in type as a value -/
theorem f_ty {x : Str} {n : String} {pos : Pos} (hg : Gl X x) (hm : X.mg x = none) (hv : bootBuiltins x = some (.type n)) (hn : x ≠ "__name__" := by decide) (hd : (x == ("__debug__" : Str)) = false := by decide) : PE X (.Name x pos) (tE G (eC (.ty n)) W) :=
  PE.imp (pe_bltn (v := .ty n) hg hm hv rfl hn hd) fun _ _ _ h => c_of (fun _ => .ty n) h
/-! ### arguments, displays -/
def eNil : EvA := fun _ h => .ok [] h
def eCons (fa : Ev) (fr : EvA) : EvA := fun us h => (fa us h).bind fun a h1 => (fr us h1).bind fun r h2 => .ok (a :: r) h2
theorem fa_nil : PA X [] (tA G eNil W) := PA.imp pa_nil fun _ _ _ ⟨us, w, e, m, sl, h⟩ => by
  subst e
  exact h w [] rfl (Ext.refl w) m .nil
theorem fa_cons {e : Expr} {es : List Expr} {fe : Ev} {fr : EvA} (ha : PE X e (tE G fe W)) (hr : PA X es (tA G fr W)) (hs : starEach (e :: es) X.env = (false, eval e X.env) :: starEach es X.env := by rfl) : PA X (e :: es) (tA G (eCons fe fr) W) :=
  PA.imp (pa_cons ha hr hs) fun σ _ Q ⟨us, w, e, m, sl, h⟩ => by
    subst e
    refine ⟨us, w, rfl, m, sl, (Pt.bind h).imp ?_⟩
    rintro x H1 ⟨w1, a, rfl, e1, m1, r1, h1⟩
    refine ⟨us, w1, rfl, m1, sl.up m e1, (Pt.bind h1).imp ?_⟩
    rintro xs H2 ⟨w2, b, rfl, e2, m2, r2, h2⟩
    exact h2 w2 (x :: xs) rfl (Ext.refl _) m2 (.cons (r1.up m1 e2) r2)
def eTup (f : EvA) : Ev := fun us h => (f us h).bind fun xs h1 => if szOk xs.length then .ok (.tup xs) h1 else .no
def eLst (f : EvA) : EvL := fun us h => (f us h).bind fun xs h1 => if szOk xs.length then .ok xs h1 else .no
theorem f_tup {es : List Expr} {f : EvA} {x1} (h : PA X es (tA G f W)) : PE X (.Tuple es x1 pos) (tE G (eTup f) W) :=
  PE.imp (pe_tup h) fun σ _ Q ⟨us, w, e, m, sl, h⟩ => by
    subst e
    refine ⟨us, w, rfl, m, sl, (Pt.bind h).imp ?_⟩
    rintro vs H1 ⟨w1, xs, rfl, e1, m1, r1, h1⟩
    split at h1
    · rename_i hz
      exact ⟨by rw [← r1.length]; exact szOk_le hz, fun p hp => newT m1 r1 rfl h1 hp⟩
    · exact h1.elim
theorem PtN.bind {α β : Type} {Rel : Wd → α → β → Prop} {r : Rs α} {k : α → List UO → Rs (List U)} {σ : L2.St} {w : Wd} {Q : VK} (h : PtN G W σ w (r.bind k) Q) :
    Pt G Rel W σ w r fun b H1 => ∃ w1 a, w1.H = H1 ∧ Ext w w1 ∧ Sm G w1 ∧ Rel w1 a b ∧ PtN G W σ w (k a w1.h) Q := by
  cases r with
  | ok a hh =>
    intro w' b e1 e2 m rl
    subst e1
    exact ⟨w', a, rfl, e2, m, rl, h⟩
  | ex x hh => exact h
  | no => exact h
theorem f_lst {es : List Expr} {f : EvA} (h : PA X es (tA G f W)) : PE X (.List es pos) (tN G (eLst f) W) :=
  PE.imp (pe_lst h) fun σ _ Q ⟨us, w, e, m, sl, h⟩ => by
    subst e
    refine ⟨us, w, rfl, m, sl, (PtN.bind h).imp ?_⟩
    rintro vs H1 ⟨w1, xs, rfl, e1, m1, r1, h1⟩
    split at h1
    · rename_i hz
      exact ⟨by rw [← r1.length]; exact szOk_le hz, fun p hp => newL e1 m1 r1 rfl h1 hp⟩
    · exact h1.elim
/-! ### tests -/
def bAnd (f g : EvB) : EvB := fun us h => (f us h).bind fun c h1 => match c with | true => g us h1 | false => .ok false h1
def bOr (f g : EvB) : EvB := fun us h => (f us h).bind fun c h1 => match c with | true => .ok true h1 | false => g us h1
def bNot (f : EvB) : EvB := fun us h => (f us h).bind fun c h1 => .ok (!c) h1
variable {fA fB : EvB} {rest : List Expr}
theorem w_and1 (ha : PT X a (tT G fA W)) : PW X (.BoolOp .And [a] pos) (tT G fA W) := pw_and1 ha
theorem w_or1 (ha : PT X a (tT G fA W)) : PW X (.BoolOp .Or [a] pos) (tT G fA W) := pw_or1 ha
theorem PW.imp {X : Cx} {e : Expr} {t t' : TT} (h : PW X e t) (i : ∀ σ H Q, t' σ H Q → t σ H Q) : PW X e t' := ⟨fun wh pins s σ H Q I q => h.run wh pins s σ H Q I (i σ H Q q)⟩
theorem w_and (ha : PT X a (tT G fA W)) (hb : PW X (.BoolOp .And (b :: rest) pos) (tT G fB W)) : PW X (.BoolOp .And (a :: b :: rest) pos) (tT G (bAnd fA fB) W) :=
  PW.imp (pw_and ha hb) fun σ _ Q ⟨us, w, e, m, sl, h⟩ => by
    subst e
    refine ⟨us, w, rfl, m, sl, (Pt.bind (Rel := fun _ (a b : Bool) => a = b) h).imp ?_⟩
    rintro c H1 ⟨w1, a, rfl, e1, m1, rfl, h1⟩
    cases a with
    | true => exact ⟨us, w1, rfl, m1, sl.up m e1, h1⟩
    | false => exact h1 w1 false rfl (Ext.refl _) m1 rfl
theorem w_or (ha : PT X a (tT G fA W)) (hb : PW X (.BoolOp .Or (b :: rest) pos) (tT G fB W)) : PW X (.BoolOp .Or (a :: b :: rest) pos) (tT G (bOr fA fB) W) :=
  PW.imp (pw_or ha hb) fun σ _ Q ⟨us, w, e, m, sl, h⟩ => by
    subst e
    refine ⟨us, w, rfl, m, sl, (Pt.bind (Rel := fun _ (a b : Bool) => a = b) h).imp ?_⟩
    rintro c H1 ⟨w1, a, rfl, e1, m1, rfl, h1⟩
    cases a with
    | false => exact ⟨us, w1, rfl, m1, sl.up m e1, h1⟩
    | true => exact h1 w1 true rfl (Ext.refl _) m1 rfl
theorem w_pt {e : Expr} (h : PW X e (tT G fA W)) : PT X e (tT G fA W) := h.pt
theorem t_not (ha : PT X a (tT G fA W)) : PT X (.UnaryOp .Not a pos) (tT G (bNot fA) W) :=
  PT.imp (pt_not ha) fun σ _ Q ⟨us, w, e, m, sl, h⟩ => by
    subst e
    refine ⟨us, w, rfl, m, sl, (Pt.bind (Rel := fun _ (a b : Bool) => a = b) h).imp ?_⟩
    rintro c H1 ⟨w1, a, rfl, e1, m1, rfl, h1⟩
    exact h1 w1 _ rfl (Ext.refl _) m1 rfl
def eIf (c : EvB) (f g : Ev) : Ev := fun us h => (c us h).bind fun b h1 => match b with | true => f us h1 | false => g us h1
theorem f_if {c : Expr} (hc : PT X c (tT G fA W)) (ha : PE X a (tE G fa W)) (hb : PE X b (tE G fb W)) : PE X (.IfExp c a b pos) (tE G (eIf fA fa fb) W) :=
  PE.imp (pe_ifExp hc ha hb) fun σ _ Q ⟨us, w, e, m, sl, h⟩ => by
    subst e
    refine ⟨us, w, rfl, m, sl, (Pt.bind (Rel := fun _ (a b : Bool) => a = b) h).imp ?_⟩
    rintro c H1 ⟨w1, a, rfl, e1, m1, rfl, h1⟩
    cases a with
    | true => exact ⟨us, w1, rfl, m1, sl.up m e1, h1⟩
    | false => exact ⟨us, w1, rfl, m1, sl.up m e1, h1⟩
/-- truth of a value -/
def truU (h : List UO) : U → Option Bool
  | .non => some false
  | .bl b => some b
  | .int i => some (i != 0)
  | .str x => if szOk x.length then some ((x.length : Int) != 0) else none
  | .tup xs => some (!xs.isEmpty)
  | u => match lstU h u with | some xs => some (!xs.isEmpty) | none => none
def bTru (f : Ev) : EvB := fun us h => (f us h).bind fun u h1 => match truU h1 u with | some c => .ok c h1 | none => .no
theorem RL.isEmpty {w : Wd} {us : List U} {vs : List V} (l : RL G w us vs) : us.isEmpty = vs.isEmpty := by cases l <;> rfl
theorem truU_of {w : Wd} (m : Sm G w) {u : U} {v : V} {c : Bool} (r : R G w u v) (h : truU w.h u = some c) : TruV G.K v w.H c := by
  have viaL : ∀ {u : U} {v : V}, R G w u v → (match lstU w.h u with | some xs => some (!xs.isEmpty) | none => none) = some c → TruV G.K v w.H c := by
    intro u v r h
    split at h
    · rename_i xs q
      obtain ⟨a, vs, rfl, hs, l⟩ := lstU_of m r q
      cases h
      exact .inl ⟨vs, hs, by rw [l.isEmpty]⟩
    · cases h
  cases r with
  | non => cases h; rfl
  | bl b => cases h; rfl
  | int i => cases h; rfl
  | str x =>
    have h : (if szOk x.length then some ((x.length : Int) != 0) else none) = some c := h
    split at h
    · rename_i hz
      cases h
      exact ⟨szOk_le hz, rfl⟩
    · cases h
  | tup h1 l => cases h; exact .inr (.inl ⟨_, h1.1, by rw [l.isEmpty]⟩)
  | fl h1 h2 l => exact viaL (.fl h1 h2 l) h
  | scr h1 => exact viaL (.scr h1) h
  | ref h1 => exact viaL (.ref h1) h
  | ty n => cases h
  | cls _ => cases h
  | tx _ _ _ => cases h
  | ob _ _ _ _ => cases h
theorem t_tru {e : Expr} {f : Ev} (hK : X.K = G.K) (ha : PE X e (tE G f W)) (he : ∀ whole, isTrue e X.env whole = (do let v ← whole; standAt e.pos; holding [v] (truthy v)) := by intro _; rfl) : PT X e (tT G (bTru f) W) :=
  PT.imp (pt_truth ha he) fun σ _ Q ⟨us, w, e, m, sl, h⟩ => by
    subst e
    refine ⟨us, w, rfl, m, sl, (Pt.bind h).imp ?_⟩
    rintro x H1 ⟨w1, a, rfl, e1, m1, r1, h1⟩
    split at h1
    · rename_i c q
      exact ⟨c, by rw [hK]; exact truU_of m1 r1 q, h1 w1 c rfl (Ext.refl _) m1 rfl⟩
    · exact h1.elim
/-- a and b, a or b as values, all True or False -/
def eAndV (f g : Ev) : Ev := fun us h => (f us h).bind fun u h1 => match u with | .bl true => g us h1 | .bl false => .ok (.bl false) h1 | _ => .no
def eOrV (f g : Ev) : Ev := fun us h => (f us h).bind fun u h1 => match u with | .bl false => g us h1 | .bl true => .ok (.bl true) h1 | _ => .no
def eNotB (f : EvB) : Ev := fun us h => (f us h).bind fun c h1 => .ok (.bl (!c)) h1
end
end Fn
namespace Fn
open PySem L2
section
variable {G : Cfg} {W : WX} {σ : L2.St} {w : Wd} {Q : VK}
/-- an end that changes nothing, its value told by its content -/
theorem Pt.int {i : Int} (h : Pt G (R G) W σ w (.ok (.int i) w.h) Q) (m : Sm G w) : Q (.int i) w.H := h w _ rfl (Ext.refl w) m (.int i)
theorem Pt.bl {b : Bool} (h : Pt G (R G) W σ w (.ok (.bl b) w.h) Q) (m : Sm G w) : Q (.bl b) w.H := h w _ rfl (Ext.refl w) m (.bl b)
theorem Pt.str {x : Str} (h : Pt G (R G) W σ w (.ok (.str x) w.h) Q) (m : Sm G w) : Q (.str x) w.H := h w _ rfl (Ext.refl w) m (.str x)
theorem Pt.non (h : Pt G (R G) W σ w (.ok .non w.h) Q) (m : Sm G w) : Q .non w.H := h w _ rfl (Ext.refl w) m .non
theorem Pt.val {u : U} {v : V} (h : Pt G (R G) W σ w (.ok u w.h) Q) (m : Sm G w) (r : R G w u v) : Q v w.H := h w v rfl (Ext.refl w) m r
/-- a list laid, read alone -/
theorem Pt.newF {xs : List U} {vs : List V} (h : Pt G (R G) W σ w (.ok (.fl xs) w.h) Q) (m : Sm G w) (l : RL G w xs vs) {p : Addr} (hp : w.H p = none) : Q (.ref p) (upd w.H p (.lst vs)) :=
  h (w.new p (.lst vs)) (.ref p) rfl (Ext.new hp) (m.new hp) (.fl upd_same (m.free_z hp) (l.up m (Ext.new hp)))
theorem Pt.newT {xs : List U} {vs : List V} (h : Pt G (R G) W σ w (.ok (.tup xs) w.h) Q) (m : Sm G w) (l : RL G w xs vs) {p : Addr} (hp : w.H p = none) : Q (.ref p) (upd w.H p (.tup vs)) :=
  Fn.newT m l rfl h hp
end
/-! ### operators -/
def kAdd (x y : U) (h : List UO) : Rs U :=
  match x, y with
  | .int i, .int j => .ok (.int (i + j)) h
  | .str a, .str b => if szOk (a.length + b.length) then .ok (.str (a ++ b)) h else .no
  | .tup xs, .tup ys => if szOk (xs.length + ys.length) then .ok (.tup (xs ++ ys)) h else .no
  | x, y => match lstH h x, lstH h y with
    | some xs, some ys => if szOk (xs.length + ys.length) then .ok (.fl (xs ++ ys)) h else .no
    | _, _ => .no
def rAdd4 (K : PySem.W.Frag) : R2 := fun x y H Q => (rI0 fun i j => .int (i + j)) x y H Q ∨ (∃ i j, x = .str i ∧ y = .str j ∧ i.length + j.length ≤ sizeLine ∧ Q (.str (i ++ j)) H) ∨ rCatA K x y H Q ∨ rCat x y H Q
theorem or_add {X : Cx} : OpR X (binaryOp .Add) (rAdd4 X.K) := op_add.or (op_add_str.or (op_catA.or op_cat))
section
variable {G : Cfg} {w : Wd}
theorem RL.nil_iff {us : List U} {vs : List V} (l : RL G w us vs) : us = [] ↔ vs = [] := by cases l <;> simp
theorem RL.nil_of {us : List U} (l : RL G w us []) : us = [] := by cases l; rfl
end
theorem ok_add {G : Cfg} : Op2 G (rAdd4 G.K) kAdd := by
  intro w σ W x y a b Q m rx ry h
  unfold kAdd at h
  have lists : (match lstH w.h x, lstH w.h y with
    | some xs, some ys => if szOk (xs.length + ys.length) then (Rs.ok (.fl (xs ++ ys)) w.h : Rs U) else .no
    | _, _ => .no) ≠ .no → Pt G (R G) W σ w (match lstH w.h x, lstH w.h y with
    | some xs, some ys => if szOk (xs.length + ys.length) then (Rs.ok (.fl (xs ++ ys)) w.h : Rs U) else .no
    | _, _ => .no) Q → rAdd4 G.K a b w.H Q := by
    intro _ h
    split at h
    · rename_i xs ys q1 q2
      split at h
      · rename_i hz
        obtain ⟨p1, vs, rfl, h1, l1⟩ := lstH_of m rx q1
        obtain ⟨p2, ws, rfl, h2, l2⟩ := lstH_of m ry q2
        exact .inr (.inr (.inr ⟨p1, p2, vs, ws, rfl, rfl, h1, h2, by rw [← l1.length, ← l2.length]; exact szOk_le hz, fun p hp => h.newF m (l1.append l2) hp⟩))
      · exact h.elim
    · exact h.elim
  cases rx with
  | int i =>
    cases ry with
    | int j => exact .inl ⟨i, j, rfl, rfl, h.int m⟩
    | _ => exact h.elim
  | str i =>
    cases ry with
    | str j =>
      dsimp only at h
      split at h
      · rename_i hz
        exact .inr (.inl ⟨i, j, rfl, rfl, szOk_le hz, h.str m⟩)
      · exact h.elim
    | _ => exact h.elim
  | tup h1 l1 =>
    cases ry with
    | tup h2 l2 =>
      dsimp only at h
      split at h
      · rename_i hz
        refine .inr (.inr (.inl ⟨_, _, _, _, rfl, rfl, h1.1, h2.1, by rw [← l1.length, ← l2.length]; exact szOk_le hz, fun e => ?_, fun e1 e2 => ?_, fun _ _ p hp => h.newT m (l1.append l2) hp⟩))
        · subst e
          rw [l1.nil_of, List.nil_append] at h
          exact h.val m (.tup h2 l2)
        · subst e2
          rw [l2.nil_of, List.append_nil] at h
          exact h.val m (.tup h1 l1)
      · exact h.elim
    | _ => exact h.elim
  | fl h1 h2 l =>
    cases ry with
    | fl h3 h4 l' => exact lists (by intro z; dsimp only at h; rw [z] at h; exact h) h
    | ref h3 => exact lists (by intro z; dsimp only at h; rw [z] at h; exact h) h
    | _ => exact h.elim
  | ref h1 =>
    cases ry with
    | fl h3 h4 l' => exact lists (by intro z; dsimp only at h; rw [z] at h; exact h) h
    | ref h3 => exact lists (by intro z; dsimp only at h; rw [z] at h; exact h) h
    | _ =>
      dsimp only at h
      simp only [lstH] at h
      split at h
      · rename_i q; cases q
      · exact h.elim
  | _ => exact h.elim
def kI0 (g : Int → Int → Int) (x y : U) (h : List UO) : Rs U := match x, y with | .int i, .int j => .ok (.int (g i j)) h | _, _ => .no
def kI (c : Int → Int → Bool) (g : Int → Int → Int) (x y : U) (h : List UO) : Rs U := match x, y with | .int i, .int j => (match c i j with | true => .ok (.int (g i j)) h | false => .no) | _, _ => .no
def kIB (g : Int → Int → Bool) (x y : U) (h : List UO) : Rs U := match x, y with | .int i, .int j => .ok (.bl (g i j)) h | _, _ => .no
theorem ok_I0 {G : Cfg} {g : Int → Int → Int} : Op2 G (rI0 fun i j => .int (g i j)) (kI0 g) := by
  intro w σ W x y a b Q m rx ry h
  cases rx with
  | int i =>
    cases ry with
    | int j => exact ⟨i, j, rfl, rfl, h.int m⟩
    | _ => exact h.elim
  | _ => exact h.elim
theorem ok_IB {G : Cfg} {g : Int → Int → Bool} : Op2 G (rI0 fun i j => .bl (g i j)) (kIB g) := by
  intro w σ W x y a b Q m rx ry h
  cases rx with
  | int i =>
    cases ry with
    | int j => exact ⟨i, j, rfl, rfl, h.bl m⟩
    | _ => exact h.elim
  | _ => exact h.elim
theorem ok_I {G : Cfg} {c : Int → Int → Bool} {C : Int → Int → Prop} {g : Int → Int → Int} (hc : ∀ i j, c i j = true → C i j) : Op2 G (rI C fun i j => .int (g i j)) (kI c g) := by
  intro w σ W x y a b Q m rx ry h
  cases rx with
  | int i =>
    cases ry with
    | int j =>
      unfold kI at h
      dsimp only at h
      split at h
      · rename_i q
        exact ⟨i, j, rfl, rfl, hc i j q, h.int m⟩
      · exact h.elim
    | _ => exact h.elim
  | _ => exact h.elim
def cMul (i j : Int) : Bool := Nat.blt i.natAbs 18446744073709551616 || Nat.blt j.natAbs 18446744073709551616
theorem cMul_ok (i j : Int) (h : cMul i j = true) : CMul i j := by
  unfold cMul at h
  rw [Bool.or_eq_true] at h
  have e : (2 : Int) ^ 64 = 18446744073709551616 := by decide
  unfold CMul
  rw [e]
  rcases h with h | h
  · have : i.natAbs < 18446744073709551616 := Nat.le_of_ble_eq_true h
    left; omega
  · have : j.natAbs < 18446744073709551616 := Nat.le_of_ble_eq_true h
    right; omega
def cDiv (_ j : Int) : Bool := !(j == 0) && Nat.blt j.natAbs 1073741824
theorem cDiv_ok (i j : Int) (h : cDiv i j = true) : CDivN i j := by
  unfold cDiv at h
  rw [Bool.and_eq_true] at h
  have : j.natAbs < 1073741824 := Nat.le_of_ble_eq_true h.2
  exact ⟨by simpa using h.1, this⟩
def cMod (_ j : Int) : Bool := !(j == 0)
theorem cMod_ok (i j : Int) (h : cMod i j = true) : j ≠ 0 := by simpa [cMod] using h
def cPow (i j : Int) : Bool := (match j with | .ofNat n => Nat.ble n 1000000 | _ => false) && Nat.blt i.natAbs 18446744073709551616
theorem cPow_ok (i j : Int) (h : cPow i j = true) : CPow i j := by
  unfold cPow at h
  rw [Bool.and_eq_true] at h
  obtain ⟨h1, h2⟩ := h
  have h2 : i.natAbs < 18446744073709551616 := Nat.le_of_ble_eq_true h2
  split at h1
  · rename_i n
    have h1 : n ≤ 1000000 := Nat.le_of_ble_eq_true h1
    refine ⟨Int.natCast_nonneg n, ?_, ?_⟩
    · show ((n : Nat) : Int) ≤ 1000000
      omega
    · show i.natAbs < 2 ^ 64
      have e : (2 : Nat) ^ 64 = 18446744073709551616 := by decide
      omega
  · cases h1
def cNn (_ j : Int) : Bool := match j with | .ofNat _ => true | _ => false
theorem cNn_ok (i j : Int) (h : cNn i j = true) : 0 ≤ j := by
  unfold cNn at h
  split at h
  · exact Int.natCast_nonneg _
  · cases h
/-- * : ints, a list by a count -/
def kMul (x y : U) (h : List UO) : Rs U :=
  match y with
  | .int j => match x with
    | .int i => (match cMul i j with | true => .ok (.int (i * j)) h | false => .no)
    | x => match lstH h x with
      | some xs => (match Nat.ble j.toNat 100000 && (Nat.blt j.natAbs 9223372036854775808) && szOk (xs.length * j.toNat) with | true => .ok (.fl (List.replicate j.toNat xs).flatten) h | false => .no)
      | none => .no
  | _ => .no
def rMul2 : R2 := fun x y H Q => (rI CMul fun i j => .int (i * j)) x y H Q ∨ rRep x y H Q
theorem or_mul {X : Cx} : OpR X (binaryOp .Mult) rMul2 := op_mul.or op_rep
theorem ok_mul {G : Cfg} : Op2 G rMul2 kMul := by
  intro w σ W x y a b Q m rx ry h
  cases ry with
  | int j =>
    have viaL : ∀ {x : U} {a : V}, R G w x a → Pt G (R G) W σ w (match lstH w.h x with
      | some xs => (match Nat.ble j.toNat 100000 && (Nat.blt j.natAbs 9223372036854775808) && szOk (xs.length * j.toNat) with | true => (.ok (.fl (List.replicate j.toNat xs).flatten) w.h : Rs U) | false => .no)
      | none => .no) Q → rMul2 a (.int j) w.H Q := by
      intro x a rx h
      split at h
      · rename_i xs q
        split at h
        · rename_i hz
          rw [Bool.and_eq_true, Bool.and_eq_true] at hz
          have h1 : j.natAbs < 9223372036854775808 := Nat.le_of_ble_eq_true hz.1.2
          obtain ⟨p1, vs, rfl, h2, l1⟩ := lstH_of m rx q
          have e : (2 : Int) ^ 63 = 9223372036854775808 := by decide
          refine .inr ⟨p1, j, vs, rfl, rfl, h2, by omega, by omega, by rw [← l1.length]; exact szOk_le hz.2, fun p hp => ?_⟩
          exact h.newF m (l1.rep _) hp
        · exact h.elim
      · exact h.elim
    cases rx with
    | int i =>
      unfold kMul at h
      dsimp only at h
      split at h
      · rename_i q
        exact .inl ⟨i, j, rfl, rfl, cMul_ok i j q, h.int m⟩
      · exact h.elim
    | fl h1 h2 l => exact viaL (.fl h1 h2 l) h
    | ref h1 => exact viaL (.ref h1) h
    | _ => exact h.elim
  | _ => exact h.elim
section
variable {X : Cx} {G : Cfg} {W : WX} {a b : Expr} {fa fb : Ev} {pos : Pos}
theorem f_add (hK : X.K = G.K) (ha : PE X a (tE G fa W)) (hb : PE X b (tE G fb W)) : PE X (.BinOp a .Add b pos) (tE G (e2 kAdd fa fb) W) := f_op2 (r := rAdd4 X.K) or_add (hK ▸ ok_add) ha hb
theorem f_sub (ha : PE X a (tE G fa W)) (hb : PE X b (tE G fb W)) : PE X (.BinOp a .Sub b pos) (tE G (e2 (kI0 fun i j => i - j) fa fb) W) := f_op2 op_sub ok_I0 ha hb
theorem f_mul (ha : PE X a (tE G fa W)) (hb : PE X b (tE G fb W)) : PE X (.BinOp a .Mult b pos) (tE G (e2 kMul fa fb) W) := f_op2 or_mul ok_mul ha hb
theorem f_fdiv (ha : PE X a (tE G fa W)) (hb : PE X b (tE G fb W)) : PE X (.BinOp a .FloorDiv b pos) (tE G (e2 (kI cDiv Int.fdiv) fa fb) W) := f_op2 op_fdivN (ok_I cDiv_ok) ha hb
theorem f_mod (ha : PE X a (tE G fa W)) (hb : PE X b (tE G fb W)) : PE X (.BinOp a .Mod b pos) (tE G (e2 (kI cMod Int.fmod) fa fb) W) := f_op2 op_modN (ok_I cMod_ok) ha hb
theorem f_pow (ha : PE X a (tE G fa W)) (hb : PE X b (tE G fb W)) : PE X (.BinOp a .Pow b pos) (tE G (e2 (kI cPow fun i j => i ^ j.toNat) fa fb) W) := f_op2 op_pow (ok_I cPow_ok) ha hb
theorem f_shl (ha : PE X a (tE G fa W)) (hb : PE X b (tE G fb W)) : PE X (.BinOp a .LShift b pos) (tE G (e2 (kI cPow fun i j => i * 2 ^ j.toNat) fa fb) W) := f_op2 op_shl (ok_I cPow_ok) ha hb
theorem f_shr (ha : PE X a (tE G fa W)) (hb : PE X b (tE G fb W)) : PE X (.BinOp a .RShift b pos) (tE G (e2 (kI cNn fun i j => i / 2 ^ j.toNat) fa fb) W) := f_op2 op_shr (ok_I cNn_ok) ha hb
theorem f_bitand (ha : PE X a (tE G fa W)) (hb : PE X b (tE G fb W)) : PE X (.BinOp a .BitAnd b pos) (tE G (e2 (kI0 Builtin.bitAnd) fa fb) W) := f_op2 op_and ok_I0 ha hb
def kNeg (x : U) (h : List UO) : Rs U := match x with | .int i => .ok (.int (-i)) h | _ => .no
theorem f_neg (ha : PE X a (tE G fa W)) : PE X (.UnaryOp .USub a pos) (tE G (e1 kNeg fa) W) := f_un un_neg (fun w σ W x v Q m r h => by
  cases r with
  | int i => exact ⟨i, rfl, h.int m⟩
  | _ => exact h.elim) ha
/-! ### comparisons -/
def kLt := kIB fun i j => decide (i < j)
def kLe := kIB fun i j => decide (i ≤ j)
def kGt := kIB fun i j => decide (j < i)
def kGe := kIB fun i j => decide (j ≤ i)
theorem f_lt (ha : PE X a (tE G fa W)) (hb : PE X b (tE G fb W)) : PE X (.Compare a [.Lt] [b] pos) (tE G (e2 kLt fa fb) W) := f_cmp op_lt ok_IB ha hb (nomark _)
theorem f_le (ha : PE X a (tE G fa W)) (hb : PE X b (tE G fb W)) : PE X (.Compare a [.LtE] [b] pos) (tE G (e2 kLe fa fb) W) := f_cmp op_le ok_IB ha hb (nomark _)
theorem f_gt (ha : PE X a (tE G fa W)) (hb : PE X b (tE G fb W)) : PE X (.Compare a [.Gt] [b] pos) (tE G (e2 kGt fa fb) W) := f_cmp op_gt ok_IB ha hb (nomark _)
theorem f_ge (ha : PE X a (tE G fa W)) (hb : PE X b (tE G fb W)) : PE X (.Compare a [.GtE] [b] pos) (tE G (e2 kGe fa fb) W) := f_cmp op_ge ok_IB ha hb (nomark _)
theorem t_lt (ha : PE X a (tE G fa W)) (hb : PE X b (tE G fb W)) : PT X (.Compare a [.Lt] [b] pos) (tT G (bE (e2 kLt fa fb)) W) := t_cmp op_lt ok_IB ha hb (nomark _)
theorem t_le (ha : PE X a (tE G fa W)) (hb : PE X b (tE G fb W)) : PT X (.Compare a [.LtE] [b] pos) (tT G (bE (e2 kLe fa fb)) W) := t_cmp op_le ok_IB ha hb (nomark _)
theorem t_gt (ha : PE X a (tE G fa W)) (hb : PE X b (tE G fb W)) : PT X (.Compare a [.Gt] [b] pos) (tT G (bE (e2 kGt fa fb)) W) := t_cmp op_gt ok_IB ha hb (nomark _)
theorem t_ge (ha : PE X a (tE G fa W)) (hb : PE X b (tE G fb W)) : PT X (.Compare a [.GtE] [b] pos) (tT G (bE (e2 kGe fa fb)) W) := t_cmp op_ge ok_IB ha hb (nomark _)
end
/-! ### data -/
def mapO {α β : Type} (f : α → Option β) : List α → Option (List β)
  | [] => some []
  | x :: r => match f x with
    | some y => (match mapO f r with | some ys => some (y :: ys) | none => none)
    | none => none
def toD : Nat → List UO → U → Option PyData
  | 0, _, _ => none
  | n + 1, h, u => match u with
    | .non => some .none
    | .bl b => some (.bool b)
    | .int i => some (.int i)
    | .str x => if PyData.strOk x then some (.str x) else none
    | .tup xs => (match mapO (toD n h) xs with | some ds => some (.tuple ds) | none => none)
    | .fl xs => (match mapO (toD n h) xs with | some ds => some (.list ds) | none => none)
    | .scr xs => some (.list (xs.map .int))
    | .ref i => (match h[i]? with | some (.lst xs) => (match mapO (toD n h) xs with | some ds => some (.list ds) | none => none) | _ => none)
    | _ => none
section
variable {G : Cfg} {w : Wd}
theorem dpInts {H : Hp} : ∀ xs : List Int, DpAll G.K H (xs.map V.int) (xs.map PyData.int)
  | [] => .nil
  | x :: r => .cons (.int x) (dpInts r)
theorem layInts : ∀ xs : List Int, PyData.canLayAll0 (xs.map PyData.int) = true ∧ PyData.depthAll (xs.map PyData.int) = 0
  | [] => by simp [PyData.canLayAll0, PyData.depthAll]
  | x :: r => by simp [PyData.canLayAll0, PyData.canLay0, PyData.depthAll, PyData.depth, layInts r]
theorem toD_all {n : Nat} (ih : ∀ (u : U) (v : V) (d : PyData), R G w u v → toD n w.h u = some d → Dp G.K w.H v d ∧ d.canLay0 = true ∧ d.depth ≤ n) :
    ∀ {us : List U} {vs : List V} {ds : List PyData}, RL G w us vs → mapO (toD n w.h) us = some ds → DpAll G.K w.H vs ds ∧ PyData.canLayAll0 ds = true ∧ PyData.depthAll ds ≤ n
  | _, _, _, .nil, e => by
    cases e
    exact ⟨.nil, by simp [PyData.canLayAll0], by simp [PyData.depthAll]⟩
  | u :: us, v :: vs, ds, .cons r t, e => by
    unfold mapO at e
    split at e
    · rename_i y q1
      split at e
      · rename_i ys q2
        cases e
        obtain ⟨a1, a2, a3⟩ := ih u v y r q1
        obtain ⟨b1, b2, b3⟩ := toD_all ih t q2
        exact ⟨.cons a1 b1, by simp [PyData.canLayAll0, a2, b2], by simp [PyData.depthAll]; omega⟩
      · cases e
    · cases e
theorem toD_of (m : Sm G w) : ∀ (n : Nat) (u : U) (v : V) (d : PyData), R G w u v → toD n w.h u = some d → Dp G.K w.H v d ∧ d.canLay0 = true ∧ d.depth ≤ n
  | 0, _, _, _, _, e => by cases e
  | n + 1, u, v, d, r, e => by
    have ih := toD_of m n
    unfold toD at e
    cases r with
    | non => cases e; exact ⟨.non, by simp [PyData.canLay0], by simp [PyData.depth]⟩
    | bl b => cases e; exact ⟨.bl b, by simp [PyData.canLay0], by simp [PyData.depth]⟩
    | int b => cases e; exact ⟨.int b, by simp [PyData.canLay0], by simp [PyData.depth]⟩
    | str x =>
      dsimp only at e
      split at e
      · rename_i q
        cases e
        exact ⟨.str x, by simpa [PyData.canLay0] using q, by simp [PyData.depth]⟩
      · cases e
    | tup h1 l =>
      dsimp only at e
      split at e
      · rename_i ds q
        cases e
        obtain ⟨a1, a2, a3⟩ := toD_all ih l q
        exact ⟨.tup h1.1 a1, by simp [PyData.canLay0, a2], by simp [PyData.depth]; omega⟩
      · cases e
    | fl h1 h2 l =>
      dsimp only at e
      split at e
      · rename_i ds q
        cases e
        obtain ⟨a1, a2, a3⟩ := toD_all ih l q
        exact ⟨.lst (.inl (.inl h1)) a1, by simp [PyData.canLay0, a2], by simp [PyData.depth]; omega⟩
      · cases e
    | @scr a xs h1 =>
      cases e
      refine ⟨.lst ?_ (dpInts xs), by simp [PyData.canLay0, (layInts xs).1], by simp [PyData.depth, (layInts xs).2]⟩
      rcases h1 with ⟨o, h1⟩ | h1
      · exact .inl (.inr ⟨o, h1⟩)
      · exact h1 _
    | @ref i a h1 =>
      dsimp only at e
      split at e
      · rename_i ys q
        split at e
        · rename_i ds q2
          cases e
          cases m.obj _ _ _ h1 q with
          | lst h2 l =>
            obtain ⟨a1, a2, a3⟩ := toD_all ih l q2
            exact ⟨.lst (.inl (.inl h2)) a1, by simp [PyData.canLay0, a2], by simp [PyData.depth]; omega⟩
        · cases e
      · cases e
    | ty n => cases e
    | cls _ => cases e
    | tx _ _ _ => cases e
    | ob _ _ _ _ => cases e
theorem toD_shaped (m : Sm G w) {u : U} {v : V} {d : PyData} (r : R G w u v) (e : toD 20 w.h u = some d) : Dp G.K w.H v d ∧ SeqAt.shaped d = true := by
  obtain ⟨h1, h2, h3⟩ := toD_of m 20 u v d r e
  refine ⟨h1, ?_⟩
  unfold SeqAt.shaped
  rw [h2, Bool.true_and, decide_eq_true_eq]
  omega
end
def eqD (h : List UO) (x y : U) : Option Bool :=
  match x, y with
  | .int i, .int j => some (i == j)
  | x, y => match toD 20 h x, toD 20 h y with
    | some d, some e => some (PyData.eqv d e)
    | _, _ => none
def kEq (x y : U) (h : List UO) : Rs U := match eqD h x y with | some c => .ok (.bl c) h | none => .no
def kNe (x y : U) (h : List UO) : Rs U := match eqD h x y with | some c => .ok (.bl (!c)) h | none => .no
theorem eqD_of {G : Cfg} {w : Wd} (m : Sm G w) {x y : U} {a b : V} {c : Bool} (rx : R G w x a) (ry : R G w y b) (h : eqD w.h x y = some c) :
    ∃ d e, Dp G.K w.H a d ∧ Dp G.K w.H b e ∧ SeqAt.shaped d = true ∧ SeqAt.shaped e = true ∧ PyData.eqv d e = c := by
  unfold eqD at h
  split at h
  · rename_i i j
    cases rx; cases ry
    cases h
    refine ⟨.int i, .int j, .int i, .int j, rfl, rfl, ?_⟩
    simp [PyData.eqv]
  · split at h
    · rename_i d e q1 q2
      cases h
      obtain ⟨a1, a2⟩ := toD_shaped m rx q1
      obtain ⟨b1, b2⟩ := toD_shaped m ry q2
      exact ⟨d, e, a1, b1, a2, b2, rfl⟩
    · cases h
theorem ok_eq {G : Cfg} : Op2 G (rEqD G.K) kEq := by
  intro w σ W x y a b Q m rx ry h
  unfold kEq at h
  split at h
  · rename_i c q
    obtain ⟨d, e, h1, h2, h3, h4, rfl⟩ := eqD_of m rx ry q
    exact ⟨d, e, h1, h2, h3, h4, h.bl m⟩
  · exact h.elim
theorem ok_ne {G : Cfg} : Op2 G (rNeD G.K) kNe := by
  intro w σ W x y a b Q m rx ry h
  unfold kNe at h
  split at h
  · rename_i c q
    obtain ⟨d, e, h1, h2, h3, h4, rfl⟩ := eqD_of m rx ry q
    exact ⟨d, e, h1, h2, h3, h4, h.bl m⟩
  · exact h.elim
/-- in, not in: a list or tuple of data -/
def anyEq (h : List UO) (x : U) : List U → Option Bool
  | [] => some false
  | y :: r => match eqD h y x with
    | some c => (match anyEq h x r with | some c' => some (c || c') | none => none)
    | none => none
section
variable {X : Cx} {G : Cfg} {W : WX} {a b : Expr} {fa fb : Ev} {pos : Pos} {k : Nat}
theorem f_eq (hr : Room k X.A) (hK : X.K = G.K) (ha : PE X a (tE G fa W)) (hb : PE X b (tE G fb W)) : PE X (.Compare a [.Eq] [b] pos) (tE G (e2 kEq fa fb) W) := f_cmp (r := rEqD X.K) (op_eqD hr.units) (hK ▸ ok_eq) ha hb (nomark _)
theorem f_ne (hr : Room k X.A) (hK : X.K = G.K) (ha : PE X a (tE G fa W)) (hb : PE X b (tE G fb W)) : PE X (.Compare a [.NotEq] [b] pos) (tE G (e2 kNe fa fb) W) := f_cmp (r := rNeD X.K) (op_neD hr.units) (hK ▸ ok_ne) ha hb (nomark _)
theorem t_eq (hr : Room k X.A) (hK : X.K = G.K) (ha : PE X a (tE G fa W)) (hb : PE X b (tE G fb W)) : PT X (.Compare a [.Eq] [b] pos) (tT G (bE (e2 kEq fa fb)) W) := t_cmp (r := rEqD X.K) (op_eqD hr.units) (hK ▸ ok_eq) ha hb (nomark _)
theorem t_ne (hr : Room k X.A) (hK : X.K = G.K) (ha : PE X a (tE G fa W)) (hb : PE X b (tE G fb W)) : PT X (.Compare a [.NotEq] [b] pos) (tT G (bE (e2 kNe fa fb)) W) := t_cmp (r := rNeD X.K) (op_neD hr.units) (hK ▸ ok_ne) ha hb (nomark _)
/-- is None -/
def kIsN (x y : U) (h : List UO) : Rs U := match y with | .non => .ok (.bl (match x with | .non => true | _ => false)) h | _ => .no
def kNotN (x y : U) (h : List UO) : Rs U := match y with | .non => .ok (.bl (match x with | .non => false | _ => true)) h | _ => .no
theorem ok_isN {G : Cfg} : Op2 G (fun x y H Q => y = .non ∧ Q (.bl (decide (x = .non))) H) kIsN := by
  intro w σ W x y a b Q m rx ry h
  cases ry with
  | non => refine ⟨rfl, ?_⟩; cases rx <;> exact h.bl m
  | _ => exact h.elim
theorem ok_notN {G : Cfg} : Op2 G (fun x y H Q => y = .non ∧ Q (.bl (!decide (x = .non))) H) kNotN := by
  intro w σ W x y a b Q m rx ry h
  cases ry with
  | non => refine ⟨rfl, ?_⟩; cases rx <;> exact h.bl m
  | _ => exact h.elim
theorem f_isN (ha : PE X a (tE G fa W)) (hb : PE X b (tE G fb W)) : PE X (.Compare a [.Is] [b] pos) (tE G (e2 kIsN fa fb) W) := f_cmp op_isN ok_isN ha hb (nomark _)
theorem f_notN (ha : PE X a (tE G fa W)) (hb : PE X b (tE G fb W)) : PE X (.Compare a [.IsNot] [b] pos) (tE G (e2 kNotN fa fb) W) := f_cmp op_notN ok_notN ha hb (nomark _)
theorem t_isN (ha : PE X a (tE G fa W)) (hb : PE X b (tE G fb W)) : PT X (.Compare a [.Is] [b] pos) (tT G (bE (e2 kIsN fa fb)) W) := t_cmp op_isN ok_isN ha hb (nomark _)
theorem t_notN (ha : PE X a (tE G fa W)) (hb : PE X b (tE G fb W)) : PT X (.Compare a [.IsNot] [b] pos) (tT G (bE (e2 kNotN fa fb)) W) := t_cmp op_notN ok_notN ha hb (nomark _)
end
/-- in, not in: flat items -/
def flatU : U → Bool
  | .non => true | .bl _ => true | .int _ => true | .str _ => true | _ => false
def eqUf : U → U → Bool
  | .int a, .int b => a == b
  | .non, .non => true
  | .bl a, .bl b => a == b
  | .bl a, .int b => (if a then 1 else 0) == b
  | .int a, .bl b => a == (if b then 1 else 0)
  | .str a, .str b => a == b
  | _, _ => false
def inU (x : U) (xs : List U) : Bool := xs.any fun y => eqUf y x
def kIn (neg : Bool) (x y : U) (h : List UO) : Rs U := match seqU h y with
  | some xs => (match flatU x && xs.all flatU with | true => .ok (.bl (if neg then !inU x xs else inU x xs)) h | false => .no)
  | none => .no
section
variable {G : Cfg} {w : Wd}
theorem flat_of {u : U} {v : V} (r : R G w u v) : flatV v = flatU u := by cases r <;> rfl
theorem eqUf_of {u u' : U} {v v' : V} (r : R G w u v) (r' : R G w u' v') (f : flatU u = true) (f' : flatU u' = true) : eqV v v' = eqUf u u' := by
  cases r <;> cases f <;> cases r' <;> cases f' <;> rfl
theorem flats_of : ∀ {us : List U} {vs : List V}, RL G w us vs → vs.all flatV = us.all flatU
  | _, _, .nil => rfl
  | _, _, .cons r t => by rw [List.all_cons, List.all_cons, flat_of r, flats_of t]
theorem inU_of {u : U} {v : V} (r : R G w u v) (f : flatU u = true) : ∀ {us : List U} {vs : List V}, RL G w us vs → us.all flatU = true → L2.inV v vs = inU u us
  | _, _, .nil, _ => rfl
  | _, _, .cons r1 t, h => by
    rw [List.all_cons, Bool.and_eq_true] at h
    unfold L2.inV inU
    rw [List.any_cons, List.any_cons, eqUf_of r1 r h.1 f]
    congr 1
    exact inU_of r f t h.2
theorem ok_in {neg : Bool} : Op2 G (rIn G.K neg) (kIn neg) := by
  intro w σ W x y a b Q m rx ry h
  unfold kIn at h
  split at h
  · rename_i xs q
    split at h
    · rename_i hf
      rw [Bool.and_eq_true] at hf
      obtain ⟨p, vs, rfl, hs, l⟩ := seqU_of m ry q
      refine ⟨p, vs, rfl, hs, by rw [flat_of rx]; exact hf.1, by rw [flats_of l]; exact hf.2, ?_⟩
      rw [inU_of rx hf.1 l hf.2]
      exact h.bl m
    · exact h.elim
  · exact h.elim
end
section
variable {X : Cx} {G : Cfg} {W : WX} {a b : Expr} {fa fb : Ev} {pos : Pos}
theorem f_in (hK : X.K = G.K) (ha : PE X a (tE G fa W)) (hb : PE X b (tE G fb W)) (hm : behindInMarks .In b = false := by rfl) : PE X (.Compare a [.In] [b] pos) (tE G (e2 (kIn false) fa fb) W) := f_cmp (r := rIn X.K false) op_in_seq (hK ▸ ok_in) ha hb hm
theorem f_notin (hK : X.K = G.K) (ha : PE X a (tE G fa W)) (hb : PE X b (tE G fb W)) (hm : behindInMarks .NotIn b = false := by rfl) : PE X (.Compare a [.NotIn] [b] pos) (tE G (e2 (kIn true) fa fb) W) := f_cmp (r := rIn X.K true) op_notIn_seq (hK ▸ ok_in) ha hb hm
theorem t_in (hK : X.K = G.K) (ha : PE X a (tE G fa W)) (hb : PE X b (tE G fb W)) (hm : behindInMarks .In b = false := by rfl) : PT X (.Compare a [.In] [b] pos) (tT G (bE (e2 (kIn false) fa fb)) W) := t_cmp (r := rIn X.K false) op_in_seq (hK ▸ ok_in) ha hb hm
theorem t_notin (hK : X.K = G.K) (ha : PE X a (tE G fa W)) (hb : PE X b (tE G fb W)) (hm : behindInMarks .NotIn b = false := by rfl) : PT X (.Compare a [.NotIn] [b] pos) (tT G (bE (e2 (kIn true) fa fb)) W) := t_cmp (r := rIn X.K true) op_notIn_seq (hK ▸ ok_in) ha hb hm
/-! ### bools as values -/
theorem f_one {op} {f : Ev} (h : PE X a (tE G f W)) : PE X (.BoolOp op [a] pos) (tE G f W) := pe_one h
theorem f_andV {rest : List Expr} (ha : PE X a (tE G fa W)) (hb : PE X (.BoolOp .And (b :: rest) pos) (tE G fb W)) : PE X (.BoolOp .And (a :: b :: rest) pos) (tE G (eAndV fa fb) W) :=
  PE.imp (pe_and ha hb) fun σ _ Q ⟨us, w, e, m, sl, h⟩ => by
    subst e
    refine ⟨us, w, rfl, m, sl, (Pt.bind h).imp ?_⟩
    rintro c H1 ⟨w1, a, rfl, e1, m1, r1, h1⟩
    cases r1 with
    | bl c =>
      refine ⟨c, rfl, ?_⟩
      cases c with
      | true => exact ⟨us, w1, rfl, m1, sl.up m e1, h1⟩
      | false => exact h1.bl m1
    | _ => exact False.elim h1
theorem f_orV {rest : List Expr} (ha : PE X a (tE G fa W)) (hb : PE X (.BoolOp .Or (b :: rest) pos) (tE G fb W)) : PE X (.BoolOp .Or (a :: b :: rest) pos) (tE G (eOrV fa fb) W) :=
  PE.imp (pe_or ha hb) fun σ _ Q ⟨us, w, e, m, sl, h⟩ => by
    subst e
    refine ⟨us, w, rfl, m, sl, (Pt.bind h).imp ?_⟩
    rintro c H1 ⟨w1, a, rfl, e1, m1, r1, h1⟩
    cases r1 with
    | bl c =>
      refine ⟨c, rfl, ?_⟩
      cases c with
      | false => exact ⟨us, w1, rfl, m1, sl.up m e1, h1⟩
      | true => exact h1.bl m1
    | _ => exact False.elim h1
def eNotV (f : Ev) : Ev := fun us h => (f us h).bind fun u h1 => match u with | .bl c => .ok (.bl (!c)) h1 | _ => .no
theorem f_notV (ha : PE X a (tE G fa W)) : PE X (.UnaryOp .Not a pos) (tE G (eNotV fa) W) :=
  PE.imp (pe_not ha) fun σ _ Q ⟨us, w, e, m, sl, h⟩ => by
    subst e
    refine ⟨us, w, rfl, m, sl, (Pt.bind h).imp ?_⟩
    rintro c H1 ⟨w1, a, rfl, e1, m1, r1, h1⟩
    cases r1 with
    | bl c => exact ⟨c, rfl, h1.bl m1⟩
    | _ => exact False.elim h1
end
/-! ### subscripts, slices -/
def atU {α : Type} (xs : List α) (i : Int) : Option α :=
  match i with
  | .ofNat n => xs[n]?
  | .negSucc n => if Nat.blt n xs.length then xs[xs.length - 1 - n]? else none
theorem atU_eq {α : Type} (xs : List α) (i : Int) : L2.atI xs i = atU xs i := by
  unfold L2.atI L2.ixN atU
  cases i with
  | ofNat n =>
    have h0 : (0 : Int) ≤ Int.ofNat n := Int.natCast_nonneg n
    rw [if_pos h0]
    by_cases h : (Int.ofNat n) < (xs.length : Int)
    · rw [if_pos h]; rfl
    · rw [if_neg h]
      have : xs.length ≤ n := by
        have h' : ¬ ((n : Int) < (xs.length : Int)) := h
        omega
      exact (List.getElem?_eq_none this).symm
  | negSucc n =>
    rw [if_neg (by simp)]
    by_cases h : n < xs.length
    · rw [if_pos (show -(xs.length : Int) ≤ Int.negSucc n by omega)]
      have e : (Int.negSucc n + (xs.length : Int)).toNat = xs.length - 1 - n := by omega
      show xs[(Int.negSucc n + (xs.length : Int)).toNat]? = _
      rw [e]
      have : Nat.blt n xs.length = true := Nat.ble_eq_true_of_le h
      simp [this]
    · rw [if_neg (show ¬ -(xs.length : Int) ≤ Int.negSucc n by omega)]
      have : Nat.blt n xs.length = false := by
        cases q : Nat.blt n xs.length with
        | false => rfl
        | true => exact absurd (Nat.le_of_ble_eq_true q) (by omega)
      simp [this]
def kIx (x y : U) (h : List UO) : Rs U :=
  match y with
  | .int i => match x with
    | .str z => if szOk z.length then (match atU z.cps.toList i with | some c => .ok (.str ⟨#[c]⟩) h | none => .no) else .no
    | x => match seqU h x with
      | some xs => (match atU xs i with | some u => .ok u h | none => .no)
      | none => .no
  | _ => .no
theorem RL.at {G : Cfg} {w : Wd} {us : List U} {vs : List V} {i : Int} {u : U} (l : RL G w us vs) (h : atU us i = some u) : ∃ v, L2.atI vs i = some v ∧ R G w u v := by
  rw [atU_eq]
  unfold atU at h ⊢
  cases i with
  | ofNat n => exact l.get h
  | negSucc n =>
    dsimp only at h ⊢
    rw [← l.length]
    split at h
    · rename_i q
      rw [if_pos q]
      exact l.get h
    · cases h
theorem ok_ix {G : Cfg} : Op2 G (rIx G.K) kIx := by
  intro w σ W x y a b Q m rx ry h
  cases ry with
  | int i =>
    have viaS : ∀ {x : U} {a : V}, R G w x a → Pt G (R G) W σ w (match seqU w.h x with
      | some xs => (match atU xs i with | some u => (.ok u w.h : Rs U) | none => .no)
      | none => .no) Q → rIx G.K a (.int i) w.H Q := by
      intro x a rx h
      split at h
      · rename_i xs q
        split at h
        · rename_i u qu
          obtain ⟨p, vs, rfl, hs, l⟩ := seqU_of m rx q
          obtain ⟨v, hv, rv⟩ := l.at qu
          rcases hs with hs | hs
          · exact .inl ⟨p, vs, i, v, rfl, rfl, hs, hv, h.val m rv⟩
          · exact .inr (.inl ⟨p, vs, i, v, rfl, rfl, hs, hv, h.val m rv⟩)
        · exact h.elim
      · exact h.elim
    cases rx with
    | str z =>
      unfold kIx at h
      dsimp only at h
      split at h
      · rename_i hz
        split at h
        · rename_i c q
          exact .inr (.inr ⟨z, i, c, rfl, rfl, szOk_le hz, by rw [atU_eq]; exact q, h.str m⟩)
        · exact h.elim
      · exact h.elim
    | tup h1 l => exact viaS (.tup h1 l) h
    | fl h1 h2 l => exact viaS (.fl h1 h2 l) h
    | scr h1 => exact viaS (.scr h1) h
    | ref h1 => exact viaS (.ref h1) h
    | non => exact h.elim
    | bl _ => exact h.elim
    | int _ => exact h.elim
    | ty _ => exact h.elim
    | cls _ => exact h.elim
    | tx _ _ _ => exact h.elim
    | ob _ _ _ _ => exact h.elim
  | _ => exact h.elim
def cutU (xs : List U) (lo hi : Option Int) : List U := (xs.drop (HT.sIx xs.length 0 lo)).take (HT.sIx xs.length xs.length hi - HT.sIx xs.length 0 lo)
def kSl (x : U) (lo hi : Option Int) (h : List UO) : Rs U :=
  match x with
  | .tup xs => .ok (.tup (cutU xs lo hi)) h
  | x => match lstU h x with
    | some xs => .ok (.fl (cutU xs lo hi)) h
    | none => .no
def eSl (f : Ev) (lo hi : EvO) : Ev := fun us h => (f us h).bind fun x h1 => (lo us h1).bind fun a h2 => (hi us h2).bind fun b h3 => kSl x a b h3
def oNo : EvO := fun _ h => .ok none h
def oE (f : Ev) : EvO := fun us h => (f us h).bind fun u h1 => match u with | .int i => .ok (some i) h1 | _ => .no
def rSlB (K : PySem.W.Frag) : V → Option Int → Option Int → Hp → VK → Prop := fun x lo hi H Q => rSlL K x lo hi H Q ∨ rSlA K x lo hi H Q
theorem RL.cut {G : Cfg} {w : Wd} {us : List U} {vs : List V} (l : RL G w us vs) (lo hi : Option Int) : RL G w (cutU us lo hi) (cutV vs lo hi) := by
  unfold cutU cutV
  rw [l.length]
  exact (l.drop _).take _
theorem cut_whole {xs : List U} {lo hi : Option Int} (h : HT.sIx xs.length 0 lo = 0 ∧ HT.sIx xs.length xs.length hi = xs.length) : cutU xs lo hi = xs := by
  unfold cutU
  rw [h.1, h.2]
  simp
section
variable {X : Cx} {G : Cfg} {W : WX} {a b : Expr} {fa fb : Ev} {pos : Pos}
theorem f_ix (hK : X.K = G.K) (ha : PE X a (tE G fa W)) (hb : PE X b (tE G fb W)) (hs : PlainIx b := by exact fun _ _ => rfl) : PE X (.Subscript a b pos) (tE G (e2 kIx fa fb) W) :=
  PE.imp (pe_ix (r := rIx X.K) ix_seq ha hb hs) fun _ _ _ h => two_of (hK ▸ ok_ix) h
theorem fo_no : PO X none (tO G oNo W) := PO.imp po_none fun _ _ _ ⟨us, w, e, m, sl, h⟩ => by
  subst e
  exact h w none rfl (Ext.refl w) m rfl
theorem fo_e (h : PE X a (tE G fa W)) : PO X (some a) (tO G (oE fa) W) := PO.imp (po_some h) fun σ _ Q ⟨us, w, e, m, sl, h⟩ => by
  subst e
  refine ⟨us, w, rfl, m, sl, (Pt.bind h).imp ?_⟩
  rintro x H1 ⟨w1, a, rfl, e1, m1, r1, h1⟩
  cases r1 with
  | int i => exact ⟨i, rfl, h1 w1 (some i) rfl (Ext.refl _) m1 rfl⟩
  | _ => exact False.elim h1
theorem f_sl {lo hi : Option Expr} {fl fh : EvO} {p2 : Pos} (hK : X.K = G.K) (ha : PE X a (tE G fa W)) (hl : PO X lo (tO G fl W)) (hh : PO X hi (tO G fh W)) : PE X (.Subscript a (.Slice lo hi none p2) pos) (tE G (eSl fa fl fh) W) :=
  PE.imp (pe_slice (r := rSlB X.K) (sl_list.or sl_tupA) ha hl hh) fun σ _ Q ⟨us, w, e, m, sl, h⟩ => by
    subst e
    rw [hK]
    refine ⟨us, w, rfl, m, sl, (Pt.bind h).imp ?_⟩
    rintro x H1 ⟨w1, a, rfl, e1, m1, r1, h1⟩
    refine ⟨us, w1, rfl, m1, sl.up m e1, (Pt.bind (Rel := fun _ (a b : Option Int) => a = b) h1).imp ?_⟩
    rintro l H2 ⟨w2, l', rfl, e2, m2, rfl, h2⟩
    refine ⟨us, w2, rfl, m2, (sl.up m e1).up m1 e2, (Pt.bind (Rel := fun _ (a b : Option Int) => a = b) h2).imp ?_⟩
    rintro u H3 ⟨w3, u', rfl, e3, m3, rfl, h3⟩
    have r3 := r1.up m1 (e2.trans e3)
    have viaL : ∀ {a : U} {x : V}, R G w3 a x → Pt G (R G) W σ w3 (match lstU w3.h a with | some xs => (.ok (.fl (cutU xs l' u')) w3.h : Rs U) | none => .no) Q → rSlB G.K x l' u' w3.H Q := by
      intro a x r h
      split at h
      · rename_i xs q
        obtain ⟨p, vs, rfl, hs, l⟩ := lstU_of m3 r q
        exact .inl ⟨p, vs, rfl, hs, fun p hp => h.newF m3 (l.cut _ _) hp⟩
      · exact h.elim
    cases r3 with
    | tup g1 l =>
      refine .inr ⟨_, _, rfl, g1.1, fun hw => ?_, fun _ p hp => h3.newT m3 (l.cut _ _) hp⟩
      rw [← l.length] at hw
      have h3 : Pt G (R G) W σ w3 (.ok (.tup (cutU _ l' u')) w3.h) Q := h3
      rw [cut_whole hw] at h3
      exact h3.val m3 (.tup g1 l)
    | fl g1 g2 l => exact viaL (.fl g1 g2 l) h3
    | scr g1 => exact viaL (.scr g1) h3
    | ref g1 => exact viaL (.ref g1) h3
    | non => exact False.elim h3
    | bl _ => exact False.elim h3
    | int _ => exact False.elim h3
    | str _ => exact False.elim h3
    | ty _ => exact False.elim h3
    | cls _ => exact False.elim h3
    | tx _ _ _ => exact False.elim h3
    | ob _ _ _ _ => exact False.elim h3
end
end Fn
namespace Fn
open PySem L2
/-! ### lists of ints -/
def toInts : List U → Option (List Int)
  | [] => some []
  | .int i :: r => (match toInts r with | some ns => some (i :: ns) | none => none)
  | _ => none
theorem toInts_of {G : Cfg} {w : Wd} : ∀ {us : List U} {vs : List V} {ns : List Int}, RL G w us vs → toInts us = some ns → vs = ns.map V.int ∧ us = ns.map U.int
  | _, _, _, .nil, e => by cases e; exact ⟨rfl, rfl⟩
  | _, _, ns, .cons r t, e => by
    cases r with
    | int i =>
      unfold toInts at e
      split at e
      · rename_i ms q
        cases e
        obtain ⟨h1, h2⟩ := toInts_of t q
        exact ⟨by rw [h1]; rfl, by rw [h2]; rfl⟩
      · cases e
    | _ => cases e
def maxI : Int → List Int → Int
  | m, [] => m
  | m, x :: r => maxI (if decide (m < x) then x else m) r
def minI : Int → List Int → Int
  | m, [] => m
  | m, x :: r => minI (if decide (x < m) then x else m) r
theorem maxI_spec : ∀ (r : List Int) (m : Int), maxI m r ∈ m :: r ∧ ∀ y ∈ m :: r, y ≤ maxI m r
  | [], m => by simp [maxI]
  | x :: r, m => by
    obtain ⟨h1, h2⟩ := maxI_spec r (if decide (m < x) then x else m)
    unfold maxI
    refine ⟨?_, fun y hy => ?_⟩
    · rcases List.mem_cons.mp h1 with e | e
      · rw [e]; split <;> simp
      · exact List.mem_cons_of_mem _ (List.mem_cons_of_mem _ e)
    · have h3 := h2 _ List.mem_cons_self
      have hm : m ≤ maxI (if decide (m < x) then x else m) r ∧ x ≤ maxI (if decide (m < x) then x else m) r := by
        by_cases q : m < x
        · simp only [q, decide_true, if_true] at h3 ⊢; omega
        · simp only [q, decide_false, Bool.false_eq_true, if_false] at h3 ⊢; omega
      rcases List.mem_cons.mp hy with e | e
      · rw [e]; exact hm.1
      · rcases List.mem_cons.mp e with e | e
        · rw [e]; exact hm.2
        · exact h2 _ (List.mem_cons_of_mem _ e)
theorem minI_spec : ∀ (r : List Int) (m : Int), minI m r ∈ m :: r ∧ ∀ y ∈ m :: r, minI m r ≤ y
  | [], m => by simp [minI]
  | x :: r, m => by
    obtain ⟨h1, h2⟩ := minI_spec r (if decide (x < m) then x else m)
    unfold minI
    refine ⟨?_, fun y hy => ?_⟩
    · rcases List.mem_cons.mp h1 with e | e
      · rw [e]; split <;> simp
      · exact List.mem_cons_of_mem _ (List.mem_cons_of_mem _ e)
    · have h3 := h2 _ List.mem_cons_self
      have hm : minI (if decide (x < m) then x else m) r ≤ m ∧ minI (if decide (x < m) then x else m) r ≤ x := by
        by_cases q : x < m
        · simp only [q, decide_true, if_true] at h3 ⊢; omega
        · simp only [q, decide_false, Bool.false_eq_true, if_false] at h3 ⊢; omega
      rcases List.mem_cons.mp hy with e | e
      · rw [e]; exact hm.1
      · rcases List.mem_cons.mp e with e | e
        · rw [e]; exact hm.2
        · exact h2 _ (List.mem_cons_of_mem _ e)
def insI (x : Int) : List Int → List Int
  | [] => [x]
  | y :: r => if decide (x ≤ y) then x :: y :: r else y :: insI x r
def sortI : List Int → List Int
  | [] => []
  | x :: r => insI x (sortI r)
theorem insI_perm (x : Int) : ∀ l : List Int, (insI x l).Perm (x :: l)
  | [] => .refl _
  | y :: r => by
    unfold insI
    split
    · exact .refl _
    · exact ((insI_perm x r).cons y).trans (.swap x y r)
theorem insI_sorted (x : Int) : ∀ l : List Int, l.Pairwise (· ≤ ·) → (insI x l).Pairwise (· ≤ ·)
  | [], _ => by simp [insI]
  | y :: r, h => by
    unfold insI
    rw [List.pairwise_cons] at h
    split
    · rename_i q
      have q := of_decide_eq_true q
      refine List.pairwise_cons.mpr ⟨fun z hz => ?_, List.pairwise_cons.mpr h⟩
      rcases List.mem_cons.mp hz with e | e
      · omega
      · exact Int.le_trans q (h.1 z e)
    · rename_i q
      have q : ¬ x ≤ y := fun z => q (decide_eq_true z)
      refine List.pairwise_cons.mpr ⟨fun z hz => ?_, insI_sorted x r h.2⟩
      rcases List.mem_cons.mp ((insI_perm x r).mem_iff.mp hz) with e | e
      · omega
      · exact h.1 z e
theorem sortI_perm : ∀ l : List Int, (sortI l).Perm l
  | [] => .refl _
  | x :: r => (insI_perm x _).trans ((sortI_perm r).cons x)
theorem sortI_sorted : ∀ l : List Int, (sortI l).Pairwise (· ≤ ·)
  | [] => .nil
  | x :: r => insI_sorted x _ (sortI_sorted r)
theorem sortI_one {a l : List Int} (hp : a.Perm l) (ha : a.Pairwise (· ≤ ·)) : a = sortI l :=
  List.Perm.eq_of_pairwise (fun _ _ _ _ h1 h2 => Int.le_antisymm h1 h2) ha (sortI_sorted l) (hp.trans (sortI_perm l).symm)
theorem sortI_rev {a l : List Int} (hp : a.Perm l) (ha : a.Pairwise (· ≥ ·)) : a = (sortI l).reverse := by
  have h1 : a.reverse.Pairwise (· ≤ ·) := List.pairwise_reverse.mpr ha
  have h2 := sortI_one ((List.reverse_perm a).trans hp) h1
  rw [← h2, List.reverse_reverse]
/-! ### built-ins by name -/
def OpC (G : Cfg) (r : List V → Hp → VK → Prop) (k : List U → List UO → Rs U) : Prop := ∀ (w : Wd) (σ : L2.St) (W : WX) (xs : List U) (vs : List V) (Q : VK), Sm G w → RL G w xs vs → Pt G (R G) W σ w (k xs w.h) Q → r vs w.H Q
def eCall (k : List U → List UO → Rs U) (fa : EvA) : Ev := fun us h => (fa us h).bind k
section
variable {X : Cx} {G : Cfg} {W : WX} {e : Expr} {es : List Expr} {fa : EvA} {pos p : Pos} {x : Str} {r : List V → Hp → VK → Prop} {k : List U → List UO → Rs U}
theorem callC_of {σ : L2.St} {H : Hp} {Q : VK} (hk : OpC G r k) (h : tE G (eCall k fa) W σ H Q) : tA G fa W σ H fun vs H1 => r vs H1 Q := by
  obtain ⟨us, w, rfl, m, sl, h⟩ := h
  refine ⟨us, w, rfl, m, sl, (Pt.bind h).imp ?_⟩
  rintro vs H1 ⟨w1, a, rfl, e1, m1, r1, h1⟩
  exact hk w1 σ W a vs Q m1 r1 h1
theorem f_callB {id : String} (hc : CallR X (.builtin id) r) (hk : OpC G r k) (hg : Gl X x) (hm : X.mg x = none) (hv : bootBuiltins x = some (.builtin id)) (ha : PA X (e :: es) (tA G fa W)) (hn : x ≠ "__name__" := by decide) (hdb : (x == ("__debug__" : Str)) = false := by decide)
    (he : starEach (e :: es) X.env = (false, eval e X.env) :: starEach es X.env := by rfl) (hpl : (backTo pos (starEach es X.env)).any (·.1) = false := by rfl) : PE X (.Call (.Name x p) (e :: es) [] pos) (tE G (eCall k fa) W) :=
  PE.imp (pe_callB hc hg hm hv ha hn hdb he hpl) fun _ _ _ h => callC_of hk h
theorem f_callTy {T : String} (hc : CallR X (.type T) r) (hk : OpC G r k) (hg : Gl X x) (hm : X.mg x = none) (hv : bootBuiltins x = some (.type T)) (ha : PA X (e :: es) (tA G fa W)) (hn : x ≠ "__name__" := by decide) (hdb : (x == ("__debug__" : Str)) = false := by decide)
    (he : starEach (e :: es) X.env = (false, eval e X.env) :: starEach es X.env := by rfl) (hpl : (backTo pos (starEach es X.env)).any (·.1) = false := by rfl) : PE X (.Call (.Name x p) (e :: es) [] pos) (tE G (eCall k fa) W) :=
  PE.imp (pe_callTy hc hg hm hv ha hn hdb he hpl) fun _ _ _ h => callC_of hk h
end
/-- len -/
def kLen (xs : List U) (h : List UO) : Rs U := match xs with
  | [.str z] => if szOk z.length then .ok (.int (z.length : Nat)) h else .no
  | [.ref i] => (match h[i]? with | some (.lst xs) => .ok (.int (xs.length : Nat)) h | some (.dk kvs) => .ok (.int (kvs.length : Nat)) h | _ => .no)
  | [u] => (match seqU h u with | some xs => .ok (.int (xs.length : Nat)) h | none => .no)
  | _ => .no
def rLen (K : PySem.W.Frag) : List V → Hp → VK → Prop := fun xs H Q => (∃ p ys, xs = [.ref p] ∧ (SqL K H p ys ∨ SqT K H p ys) ∧ Q (.int ys.length) H) ∨ (∃ z, xs = [.str z] ∧ z.length ≤ sizeLine ∧ Q (.int z.length) H) ∨
  ∃ a kvs, xs = [V.ref a] ∧ H a = some (HO.dK kvs) ∧ Q (V.int kvs.length) H
theorem or_len {X : Cx} : CallR X (.builtin "len") (rLen X.K) := call_len_seq.or (call_len_str.or call_lenD)
theorem ok_len {G : Cfg} : OpC G (rLen G.K) kLen := by
  intro w σ W xs vs Q m l h
  cases l with
  | nil => exact h.elim
  | cons r t =>
    cases t with
    | cons _ _ =>
      unfold kLen at h
      split at h <;> first | exact h.elim | (rename_i q; cases q)
    | nil =>
      have viaS : ∀ {x : U} {a : V}, R G w x a → Pt G (R G) W σ w (match seqU w.h x with | some xs => (.ok (.int (xs.length : Nat)) w.h : Rs U) | none => .no) Q → rLen G.K [a] w.H Q := by
        intro x a rx h
        split at h
        · rename_i xs q
          obtain ⟨p, vs, rfl, hs, l⟩ := seqU_of m rx q
          exact .inl ⟨p, vs, rfl, hs, by rw [← l.length]; exact h.int m⟩
        · exact h.elim
      cases r with
      | str z =>
        unfold kLen at h
        dsimp only at h
        split at h
        · rename_i hz
          exact .inr (.inl ⟨z, rfl, szOk_le hz, h.int m⟩)
        · exact h.elim
      | tup h1 l => exact viaS (.tup h1 l) h
      | fl h1 h2 l => exact viaS (.fl h1 h2 l) h
      | scr h1 => exact viaS (.scr h1) h
      | @ref i a h1 =>
        unfold kLen at h
        dsimp only at h
        split at h
        · rename_i xs q
          cases m.obj _ _ _ h1 q with
          | lst h2 l => exact .inl ⟨_, _, rfl, .inl (.inl (.inl h2)), by rw [← l.length]; exact h.int m⟩
        · rename_i kvs q
          cases m.obj _ _ _ h1 q with
          | dk h2 l =>
            refine .inr (.inr ⟨_, _, rfl, h2, ?_⟩)
            rw [List.length_zip, List.length_map, ← l.length, List.length_map, Nat.min_self]
            exact h.int m
        · exact h.elim
      | non => exact h.elim
      | bl _ => exact h.elim
      | int _ => exact h.elim
      | ty _ => exact h.elim
      | cls _ => exact h.elim
      | tx _ _ _ => exact h.elim
      | ob _ _ _ _ => exact h.elim
/-- abs, int, bool -/
def kAbs (xs : List U) (h : List UO) : Rs U := match xs with | [.int i] => .ok (.int (if decide (i < 0) then -i else i)) h | _ => .no
theorem ok_abs {G : Cfg} : OpC G (fun xs H Q => ∃ i, xs = [.int i] ∧ Q (.int (if i < 0 then -i else i)) H) kAbs := by
  intro w σ W xs vs Q m l h
  unfold kAbs at h
  split at h
  · rename_i i
    cases l with
    | cons r t => cases t; cases r; refine ⟨i, rfl, ?_⟩; have h := h.int m; simpa using h
  · exact h.elim
def kInt (xs : List U) (h : List UO) : Rs U := match xs with | [.int i] => .ok (.int i) h | [.bl b] => .ok (.int (match b with | true => 1 | false => 0)) h | _ => .no
theorem ok_int {G : Cfg} : OpC G (fun xs H Q => (∃ i, xs = [.int i] ∧ Q (.int i) H) ∨ ∃ k, xs = [.bl k] ∧ Q (.int (if k then 1 else 0)) H) kInt := by
  intro w σ W xs vs Q m l h
  unfold kInt at h
  split at h
  · rename_i i
    cases l with
    | cons r t => cases t; cases r; exact .inl ⟨i, rfl, h.int m⟩
  · rename_i b
    cases l with
    | cons r t => cases t; cases r; refine .inr ⟨b, rfl, ?_⟩; have h := h.int m; cases b <;> exact h
  · exact h.elim
/-- max, min: two ints, or a list of ints -/
def kMax (xs : List U) (h : List UO) : Rs U := match xs with
  | [.int i, .int j] => .ok (.int (if decide (j > i) then j else i)) h
  | [u] => (match lstU h u with | some xs => (match toInts xs with | some (n :: ns) => .ok (.int (maxI n ns)) h | _ => .no) | none => .no)
  | _ => .no
def kMin (xs : List U) (h : List UO) : Rs U := match xs with
  | [.int i, .int j] => .ok (.int (if decide (j < i) then j else i)) h
  | [u] => (match lstU h u with | some xs => (match toInts xs with | some (n :: ns) => .ok (.int (minI n ns)) h | _ => .no) | none => .no)
  | _ => .no
def rMax2 (K : PySem.W.Frag) : List V → Hp → VK → Prop := fun xs H Q => (∃ i j, xs = [.int i, .int j] ∧ Q (.int (if j > i then j else i)) H) ∨ rMax K xs H Q
def rMin2 (K : PySem.W.Frag) : List V → Hp → VK → Prop := fun xs H Q => (∃ i j, xs = [.int i, .int j] ∧ Q (.int (if j < i then j else i)) H) ∨ rMin K xs H Q
theorem or_max {X : Cx} (hc : X.calm = true) : CallR X (.builtin "max") (rMax2 X.K) := (call_max2 hc).or (cr_max hc)
theorem or_min {X : Cx} (hc : X.calm = true) : CallR X (.builtin "min") (rMin2 X.K) := (call_min2 hc).or (cr_min hc)
theorem ok_max {G : Cfg} : OpC G (rMax2 G.K) kMax := by
  intro w σ W xs vs Q m l h
  unfold kMax at h
  split at h
  · rename_i i j
    cases l with
    | cons r t => cases t with | cons r2 t2 => cases t2; cases r; cases r2; refine .inl ⟨i, j, rfl, ?_⟩; have h := h.int m; simpa using h
  · rename_i u
    split at h
    · rename_i ys q
      split at h
      · rename_i n ns q2
        cases l with
        | cons r t =>
          cases t
          obtain ⟨p, vs, rfl, hs, l⟩ := lstU_of m r q
          obtain ⟨rfl, _⟩ := toInts_of l q2
          refine .inr ⟨p, n :: ns, rfl, hs, by simp, fun z hz hle => ?_⟩
          obtain ⟨h1, h2⟩ := maxI_spec ns n
          have e : z = maxI n ns := Int.le_antisymm (h2 z hz) (hle _ h1)
          rw [e]
          exact h.int m
      · exact h.elim
    · exact h.elim
  · exact h.elim
theorem ok_min {G : Cfg} : OpC G (rMin2 G.K) kMin := by
  intro w σ W xs vs Q m l h
  unfold kMin at h
  split at h
  · rename_i i j
    cases l with
    | cons r t => cases t with | cons r2 t2 => cases t2; cases r; cases r2; refine .inl ⟨i, j, rfl, ?_⟩; have h := h.int m; simpa using h
  · rename_i u
    split at h
    · rename_i ys q
      split at h
      · rename_i n ns q2
        cases l with
        | cons r t =>
          cases t
          obtain ⟨p, vs, rfl, hs, l⟩ := lstU_of m r q
          obtain ⟨rfl, _⟩ := toInts_of l q2
          refine .inr ⟨p, n :: ns, rfl, hs, by simp, fun z hz hle => ?_⟩
          obtain ⟨h1, h2⟩ := minI_spec ns n
          have e : z = minI n ns := Int.le_antisymm (hle _ h1) (h2 z hz)
          rw [e]
          exact h.int m
      · exact h.elim
    · exact h.elim
  · exact h.elim
/-- sum of a list of ints -/
def sumI : List Int → Int
  | [] => 0
  | x :: r => x + sumI r
theorem sumI_eq : ∀ l : List Int, sumI l = l.sum
  | [] => rfl
  | x :: r => by rw [sumI, sumI_eq r, List.sum_cons]
def kSum (xs : List U) (h : List UO) : Rs U := match xs with
  | [u] => (match lstU h u with | some xs => (match toInts xs with | some ns => .ok (.int (sumI ns)) h | _ => .no) | none => .no)
  | _ => .no
theorem ok_sum {G : Cfg} : OpC G (rSum G.K) kSum := by
  intro w σ W xs vs Q m l h
  unfold kSum at h
  split at h
  · rename_i u
    split at h
    · rename_i ys q
      split at h
      · rename_i ns q2
        cases l with
        | cons r t =>
          cases t
          obtain ⟨p, vs, rfl, hs, l⟩ := lstU_of m r q
          obtain ⟨rfl, _⟩ := toInts_of l q2
          refine ⟨p, ns, rfl, hs, ?_⟩
          rw [← sumI_eq]
          exact h.int m
      · exact h.elim
    · exact h.elim
  · exact h.elim
/-- sorted of a list of ints -/
def kSorted (xs : List U) (h : List UO) : Rs U := match xs with
  | [u] => (match lstU h u with | some xs => (match toInts xs with | some ns => (match Nat.blt ns.length 64 with | true => .ok (.fl ((sortI ns).map .int)) h | false => .no) | _ => .no) | none => .no)
  | _ => .no
theorem ok_sorted {G : Cfg} : OpC G (rSorted G.K) kSorted := by
  intro w σ W xs vs Q m l h
  unfold kSorted at h
  split at h
  · rename_i u
    split at h
    · rename_i ys q
      split at h
      · rename_i ns q2
        split at h
        · rename_i q3
          cases l with
          | cons r t =>
            cases t
            obtain ⟨p, vs, rfl, hs, l⟩ := lstU_of m r q
            obtain ⟨rfl, _⟩ := toInts_of l q2
            refine ⟨p, ns, rfl, hs, Nat.le_of_ble_eq_true q3, fun ns' p h1 h2 hp => ?_⟩
            rw [sortI_one h1 h2]
            exact h.newF m RL.ints hp
        · exact h.elim
      · exact h.elim
    · exact h.elim
  · exact h.elim
/-- tuple(x), list(x) -/
def kTupC (xs : List U) (h : List UO) : Rs U := match xs with
  | [.tup xs] => .ok (.tup xs) h
  | [u] => (match lstU h u with | some xs => .ok (.tup xs) h | none => .no)
  | _ => .no
theorem ok_tupC {G : Cfg} : OpC G (fun xs H Q => ∃ p ys, xs = [.ref p] ∧ ((SqL G.K H p ys ∧ ∀ l, H l = none → Q (.ref l) (upd H l (.tup ys))) ∨ (SqT G.K H p ys ∧ Q (.ref p) H))) kTupC := by
  intro w σ W xs vs Q m l h
  unfold kTupC at h
  split at h
  · rename_i ys
    cases l with
    | cons r t =>
      cases t
      cases r with
      | tup h1 l => exact ⟨_, _, rfl, .inr ⟨h1.1, h.val m (.tup h1 l)⟩⟩
  · rename_i u _
    split at h
    · rename_i ys q
      cases l with
      | cons r t =>
        cases t
        obtain ⟨p, vs, rfl, hs, l⟩ := lstU_of m r q
        exact ⟨p, vs, rfl, .inl ⟨hs, fun p hp => h.newT m l hp⟩⟩
    · exact h.elim
  · exact h.elim
def eListOf (fa : EvA) : EvL := fun us h => (fa us h).bind fun xs h1 => match xs with
  | [u] => (match seqU h1 u with | some ys => .ok ys h1 | none => .no)
  | _ => .no
section
variable {X : Cx} {G : Cfg} {W : WX} {e : Expr} {es : List Expr} {fa : EvA} {pos p : Pos} {x : Str} {k : Nat}
theorem f_len (hK : X.K = G.K) (hg : Gl X "len") (hm : X.mg "len" = none) (ha : PA X [e] (tA G fa W)) (he : starEach [e] X.env = (false, eval e X.env) :: starEach [] X.env := by rfl) : PE X (.Call (.Name "len" p) [e] [] pos) (tE G (eCall kLen fa) W) :=
  f_callB (r := rLen X.K) or_len (hK ▸ ok_len) hg hm PySem.boot_len ha (he := he)
theorem f_abs (hg : Gl X "abs") (hm : X.mg "abs" = none) (ha : PA X [e] (tA G fa W)) (he : starEach [e] X.env = (false, eval e X.env) :: starEach [] X.env := by rfl) : PE X (.Call (.Name "abs" p) [e] [] pos) (tE G (eCall kAbs fa) W) :=
  f_callB call_abs ok_abs hg hm (by decide +kernel) ha (he := he)
theorem f_intc (hg : Gl X "int") (hm : X.mg "int" = none) (ha : PA X [e] (tA G fa W)) (he : starEach [e] X.env = (false, eval e X.env) :: starEach [] X.env := by rfl) : PE X (.Call (.Name "int" p) [e] [] pos) (tE G (eCall kInt fa) W) :=
  f_callTy call_int1 ok_int hg hm (by decide +kernel) ha (he := he)
theorem f_max {e : Expr} (hK : X.K = G.K) (hc : X.calm = true) (hg : Gl X "max") (hm : X.mg "max" = none) (ha : PA X (e :: es) (tA G fa W)) (he : starEach (e :: es) X.env = (false, eval e X.env) :: starEach es X.env := by rfl) (hpl : (backTo pos (starEach es X.env)).any (·.1) = false := by rfl) : PE X (.Call (.Name "max" p) (e :: es) [] pos) (tE G (eCall kMax fa) W) :=
  f_callB (r := rMax2 X.K) (or_max hc) (hK ▸ ok_max) hg hm (by decide +kernel) ha (he := he) (hpl := hpl)
theorem f_min {e : Expr} (hK : X.K = G.K) (hc : X.calm = true) (hg : Gl X "min") (hm : X.mg "min" = none) (ha : PA X (e :: es) (tA G fa W)) (he : starEach (e :: es) X.env = (false, eval e X.env) :: starEach es X.env := by rfl) (hpl : (backTo pos (starEach es X.env)).any (·.1) = false := by rfl) : PE X (.Call (.Name "min" p) (e :: es) [] pos) (tE G (eCall kMin fa) W) :=
  f_callB (r := rMin2 X.K) (or_min hc) (hK ▸ ok_min) hg hm (by decide +kernel) ha (he := he) (hpl := hpl)
theorem f_sum (hK : X.K = G.K) (hc : X.calm = true) (hg : Gl X "sum") (hm : X.mg "sum" = none) (ha : PA X [e] (tA G fa W)) (he : starEach [e] X.env = (false, eval e X.env) :: starEach [] X.env := by rfl) : PE X (.Call (.Name "sum" p) [e] [] pos) (tE G (eCall kSum fa) W) :=
  f_callB (r := rSum X.K) (cr_sum hc) (hK ▸ ok_sum) hg hm (by decide +kernel) ha (he := he)
theorem f_sorted (hK : X.K = G.K) (hg : Gl X "sorted") (hm : X.mg "sorted" = none) (ha : PA X [e] (tA G fa W)) (he : starEach [e] X.env = (false, eval e X.env) :: starEach [] X.env := by rfl) : PE X (.Call (.Name "sorted" p) [e] [] pos) (tE G (eCall kSorted fa) W) :=
  f_callB (r := rSorted X.K) cr_sorted (hK ▸ ok_sorted) hg hm (by decide +kernel) ha (he := he)
theorem f_tupc (hK : X.K = G.K) (hg : Gl X "tuple") (hm : X.mg "tuple" = none) (ha : PA X [e] (tA G fa W)) (he : starEach [e] X.env = (false, eval e X.env) :: starEach [] X.env := by rfl) : PE X (.Call (.Name "tuple" p) [e] [] pos) (tE G (eCall kTupC fa) W) :=
  f_callTy (r := fun xs H Q => ∃ p ys, xs = [.ref p] ∧ ((SqL X.K H p ys ∧ ∀ l, H l = none → Q (.ref l) (upd H l (.tup ys))) ∨ (SqT X.K H p ys ∧ Q (.ref p) H))) call_tuple_of (hK ▸ ok_tupC) hg hm (by decide +kernel) ha (he := he)
theorem f_listc (hK : X.K = G.K) (hg : Gl X "list") (hm : X.mg "list" = none) (ha : PA X [e] (tA G fa W)) (he : starEach [e] X.env = (false, eval e X.env) :: starEach [] X.env := by rfl) : PE X (.Call (.Name "list" p) [e] [] pos) (tN G (eListOf fa) W) :=
  PE.imp (pe_callTy call_list_of hg hm (by decide +kernel) ha (he := he)) fun σ _ Q ⟨us, w, e, m, sl, h⟩ => by
    subst e
    refine ⟨us, w, rfl, m, sl, (PtN.bind h).imp ?_⟩
    rintro vs H1 ⟨w1, xs, rfl, e1, m1, r1, h1⟩
    split at h1
    · rename_i u
      split at h1
      · rename_i ys q
        cases r1 with
        | cons r t =>
          cases t
          obtain ⟨p, vs, rfl, hs, l⟩ := seqU_of m1 r q
          exact ⟨p, vs, rfl, by rw [hK]; exact hs, fun p hp => newL e1 m1 l rfl h1 hp⟩
      · exact h1.elim
    · exact h1.elim
/-- list(range(..)), tuple(range(..)) -/
def rgU (a b : Int) : List U := (List.range (b - a).toNat).map fun i => U.int (a + (i : Nat))
def rgOk (a b : Int) : Bool := Nat.ble a.natAbs 1000000000 && Nat.ble b.natAbs 1000000000 && szOk (b - a).toNat
theorem rgOk_ok {a b : Int} (h : rgOk a b = true) : RgOk a b := by
  unfold rgOk at h
  rw [Bool.and_eq_true, Bool.and_eq_true] at h
  have h1 : a.natAbs ≤ 1000000000 := Nat.le_of_ble_eq_true h.1.1
  have h2 : b.natAbs ≤ 1000000000 := Nat.le_of_ble_eq_true h.1.2
  have h3 := Nat.le_of_ble_eq_true h.2
  unfold RgOk
  have e1 : (2 : Int) ^ 62 = 4611686018427387904 := by decide
  have e2 : (2 : Nat) ^ 24 = 16777216 := by decide
  omega
theorem rl_rg {w : Wd} (a b : Int) : RL G w (rgU a b) (L2.rgV a b) := by
  have e1 : rgU a b = ((List.range (b - a).toNat).map fun i => a + ((i : Nat) : Int)).map U.int := by simp [rgU]
  have e2 : L2.rgV a b = ((List.range (b - a).toNat).map fun i => a + ((i : Nat) : Int)).map V.int := by simp [L2.rgV]
  rw [e1, e2]
  exact RL.ints
def eRg (fa : EvA) : EvL := fun us h => (fa us h).bind fun xs h1 => match xs with
  | [.int n] => (match rgOk 0 n with | true => .ok (rgU 0 n) h1 | false => .no)
  | [.int a, .int b] => (match rgOk a b with | true => .ok (rgU a b) h1 | false => .no)
  | _ => .no
/-- range(..) as an argument: its bounds -/
abbrev EvR := Lo → List UO → Rs (Int × Int)
def tR (G : Cfg) (f : EvR) (W : WX) : L2.St → Hp → (Int → Int → Hp → Prop) → Prop := fun σ H Q => tX G (fun _ (a b : Int × Int) => a = b) f W σ H fun p H1 => Q p.1 p.2 H1
def eRg1 (fa : Ev) : EvR := fun us h => (fa us h).bind fun u h1 => match u with | .int n => .ok (0, n) h1 | _ => .no
def eRg2 (fa fb : Ev) : EvR := fun us h => (fa us h).bind fun u h1 => (fb us h1).bind fun v h2 => match u, v with | .int a, .int b => .ok (a, b) h2 | _, _ => .no
theorem PRg.imp {e : Expr} {t t' : L2.St → Hp → (Int → Int → Hp → Prop) → Prop} (h : PRg X e t) (i : ∀ σ H Q, t' σ H Q → t σ H Q) : PRg X e t' := fun pins s σ H Q I q => h pins s σ H Q I (i σ H Q q)
theorem fr_1 {a : Expr} {f : Ev} (hg : Gl X "range") (hm : X.mg "range" = none) (ha : PE X a (tE G f W)) (na : starEach [a] X.env = (false, eval a X.env) :: starEach [] X.env := by rfl) : PRg X (.Call (.Name "range" p) [a] [] pos) (tR G (eRg1 f) W) :=
  PRg.imp (prg_1 hg hm ha na) fun σ _ Q ⟨us, w, e, m, sl, h⟩ => by
    subst e
    refine ⟨us, w, rfl, m, sl, (Pt.bind (Rel := R G) h).imp ?_⟩
    rintro v H1 ⟨w1, u, rfl, e1, m1, r1, h1⟩
    cases r1 with
    | int n => exact ⟨n, rfl, h1 w1 (0, n) rfl (Ext.refl _) m1 rfl⟩
    | _ => exact False.elim h1
theorem fr_2 {a b : Expr} {f g : Ev} (hg : Gl X "range") (hm : X.mg "range" = none) (ha : PE X a (tE G f W)) (hb : PE X b (tE G g W)) (na : starEach [a, b] X.env = (false, eval a X.env) :: starEach [b] X.env := by rfl)
    (nb : starEach [b] X.env = (false, eval b X.env) :: starEach [] X.env := by rfl) (hp : (backTo pos (starEach [b] X.env)).any (·.1) = false := by rfl) : PRg X (.Call (.Name "range" p) [a, b] [] pos) (tR G (eRg2 f g) W) :=
  PRg.imp (prg_2 hg hm ha hb na nb hp) fun σ _ Q ⟨us, w, e, m, sl, h⟩ => by
    subst e
    refine ⟨us, w, rfl, m, sl, (Pt.bind (Rel := R G) h).imp ?_⟩
    rintro v H1 ⟨w1, u, rfl, e1, m1, r1, h1⟩
    refine ⟨us, w1, rfl, m1, sl.up m e1, (Pt.bind (Rel := R G) h1).imp ?_⟩
    rintro v' H2 ⟨w2, u', rfl, e2, m2, r2, h2⟩
    have r1 := r1.up m1 e2
    cases r1 with
    | int a =>
      cases r2 with
      | int b => exact ⟨a, b, rfl, rfl, h2 w2 (a, b) rfl (Ext.refl _) m2 rfl⟩
      | _ => exact False.elim h2
    | _ => exact False.elim h2
def eLRg (f : EvR) : EvL := fun us h => (f us h).bind fun p h1 => match rgOk p.1 p.2 with | true => .ok (rgU p.1 p.2) h1 | false => .no
def eTRg (f : EvR) : Ev := fun us h => (f us h).bind fun p h1 => match rgOk p.1 p.2 with | true => .ok (.tup (rgU p.1 p.2)) h1 | false => .no
theorem f_listrg {f : EvR} (hc : X.calm = true) (hg : Gl X "list") (hm : X.mg "list" = none) (he : PRg X e (tR G f W)) (na : starEach [e] X.env = (false, eval e X.env) :: starEach [] X.env := by rfl) : PE X (.Call (.Name "list" p) [e] [] pos) (tN G (eLRg f) W) :=
  PE.imp (pe_listRg hc hg hm he na) fun σ _ Q ⟨us, w, e, m, sl, h⟩ => by
    subst e
    refine ⟨us, w, rfl, m, sl, (PtN.bind (Rel := fun _ (a b : Int × Int) => a = b) h).imp ?_⟩
    rintro v H1 ⟨w1, u, rfl, e1, m1, rfl, h1⟩
    split at h1
    · rename_i q
      exact ⟨rgOk_ok q, fun q hq => newL e1 m1 (rl_rg _ _) rfl h1 hq⟩
    · exact h1.elim
theorem f_tuprg {f : EvR} (hc : X.calm = true) (hg : Gl X "tuple") (hm : X.mg "tuple" = none) (he : PRg X e (tR G f W)) (na : starEach [e] X.env = (false, eval e X.env) :: starEach [] X.env := by rfl) : PE X (.Call (.Name "tuple" p) [e] [] pos) (tE G (eTRg f) W) :=
  PE.imp (pe_tupRg hc hg hm he na) fun σ _ Q ⟨us, w, e, m, sl, h⟩ => by
    subst e
    refine ⟨us, w, rfl, m, sl, (Pt.bind (Rel := fun _ (a b : Int × Int) => a = b) h).imp ?_⟩
    rintro v H1 ⟨w1, u, rfl, e1, m1, rfl, h1⟩
    split at h1
    · rename_i q
      exact ⟨rgOk_ok q, fun q hq => h1.newT m1 (rl_rg _ _) hq⟩
    · exact h1.elim
end
/-! ### max(x, default=d), min(x, default=d) of ints -/
section
open PySem.W PyProof.Rows
theorem alike_ints (ns : List Int) : AlikeAll (ns.map PyData.int) := by
  refine ⟨fun x hx y hy => ?_, fun x hx => ?_⟩
  · obtain ⟨i, _, rfl⟩ := List.mem_map.mp hx
    obtain ⟨j, _, rfl⟩ := List.mem_map.mp hy
    simp [alike]
  · obtain ⟨i, _, rfl⟩ := List.mem_map.mp hx
    exact fun z => nomatch z
theorem reads_ints {h : Heap} : ∀ {us : List Value} {ns : List Int}, IntsAre us ns → ∃ as, ReadsAll h us (ns.map PyData.int) as := by
  intro us ns hi
  have := Vals.ints (us := us) (ns := ns)
  clear this
  have hv := vals_of_ints hi
  clear hi
  induction ns generalizing us with
  | nil => cases hv; exact ⟨_, .nil⟩
  | cons n r ih =>
    cases hv with
    | cons r1 t =>
      obtain ⟨tk, rfl⟩ := r1
      obtain ⟨as, q⟩ := ih t
      exact ⟨_, .cons (.int n tk) q⟩
def rMaxD (K : PySem.W.Frag) : List V → List V → Hp → VK → Prop := fun vs zs H Q => ∃ (a : Addr) (ns : List Int) (d : Int), vs = [V.ref a] ∧ zs = [.int d] ∧ (SqL K H a (ns.map V.int) ∨ SqT K H a (ns.map V.int)) ∧ Q (.int (match ns with | [] => d | n :: r => r.foldl max n)) H
def rMinD (K : PySem.W.Frag) : List V → List V → Hp → VK → Prop := fun vs zs H Q => ∃ (a : Addr) (ns : List Int) (d : Int), vs = [V.ref a] ∧ zs = [.int d] ∧ (SqL K H a (ns.map V.int) ∨ SqT K H a (ns.map V.int)) ∧ Q (.int (match ns with | [] => d | n :: r => r.foldl min n)) H
theorem depth_ints : ∀ ns : List Int, PyData.depthAll (ns.map PyData.int) = 0
  | [] => by simp [PyData.depthAll]
  | n :: r => by simp [PyData.depthAll, PyData.depth, depth_ints r]
theorem cr_maxD {X : Cx} {k : Nat} (hr : Room k X.A) : CallRK X (.builtin "max") [Str.ofString "default"] (rMaxD X.K) := by
  intro pins s σ H vs zs us ws Q I r rz h
  obtain ⟨a, ns, d, rfl, rfl, hs, q⟩ := h
  obtain rfl := Vals.ref1 r
  obtain ⟨w1, rfl, ⟨td, rfl⟩⟩ := vals1 rz
  rcases hs with hs | hs
  · obtain ⟨its, rv, hl, hz⟩ := I.list hs
    obtain ⟨as, hrd⟩ := reads_ints (h := s.heap) rv.ints
    have hu := hr.units
    refine max_list_default hr.hd hl.isList (by simpa using hrd) (alike_ints ns) (by rw [depth_ints]; omega) (fun e h' tk hk => ?_) (fun y ys i v h' tk bs e hv hrd' hk => ?_)
    · cases ns with
      | cons _ _ => cases e
      | nil => exact ⟨.int d, H, I.kept (t' := tk) hk, ⟨td, rfl⟩, q⟩
    · cases ns with
      | nil => cases e
      | cons n r =>
        rw [List.map_cons] at e
        injection e with e1 e2
        subst e1 e2
        rw [maxD_ints] at hrd'
        cases hrd' with
        | int _ t => exact ⟨.int (r.foldl max n), H, I.kept (t' := tk) hk, ⟨t, rfl⟩, q⟩
  · obtain ⟨its, rv, hl, hz⟩ := I.tuple hs
    obtain ⟨as, hrd⟩ := reads_ints (h := s.heap) rv.ints
    have hu := hr.units
    refine max_tuple_default hr.hd hl (by simpa using hrd) (alike_ints ns) (by rw [depth_ints]; omega) (fun e h' tk hk => ?_) (fun y ys i v h' tk bs e hv hrd' hk => ?_)
    · cases ns with
      | cons _ _ => cases e
      | nil => exact ⟨.int d, H, I.kept (t' := tk) hk, ⟨td, rfl⟩, q⟩
    · cases ns with
      | nil => cases e
      | cons n r =>
        rw [List.map_cons] at e
        injection e with e1 e2
        subst e1 e2
        rw [maxD_ints] at hrd'
        cases hrd' with
        | int _ t => exact ⟨.int (r.foldl max n), H, I.kept (t' := tk) hk, ⟨t, rfl⟩, q⟩
theorem cr_minD {X : Cx} {k : Nat} (hr : Room k X.A) : CallRK X (.builtin "min") [Str.ofString "default"] (rMinD X.K) := by
  intro pins s σ H vs zs us ws Q I r rz h
  obtain ⟨a, ns, d, rfl, rfl, hs, q⟩ := h
  obtain rfl := Vals.ref1 r
  obtain ⟨w1, rfl, ⟨td, rfl⟩⟩ := vals1 rz
  rcases hs with hs | hs
  · obtain ⟨its, rv, hl, hz⟩ := I.list hs
    obtain ⟨as, hrd⟩ := reads_ints (h := s.heap) rv.ints
    have hu := hr.units
    refine min_list_default hr.hd hl.isList (by simpa using hrd) (alike_ints ns) (by rw [depth_ints]; omega) (fun e h' tk hk => ?_) (fun y ys i v h' tk bs e hv hrd' hk => ?_)
    · cases ns with
      | cons _ _ => cases e
      | nil => exact ⟨.int d, H, I.kept (t' := tk) hk, ⟨td, rfl⟩, q⟩
    · cases ns with
      | nil => cases e
      | cons n r =>
        rw [List.map_cons] at e
        injection e with e1 e2
        subst e1 e2
        rw [minD_ints] at hrd'
        cases hrd' with
        | int _ t => exact ⟨.int (r.foldl min n), H, I.kept (t' := tk) hk, ⟨t, rfl⟩, q⟩
  · obtain ⟨its, rv, hl, hz⟩ := I.tuple hs
    obtain ⟨as, hrd⟩ := reads_ints (h := s.heap) rv.ints
    have hu := hr.units
    refine min_tuple_default hr.hd hl (by simpa using hrd) (alike_ints ns) (by rw [depth_ints]; omega) (fun e h' tk hk => ?_) (fun y ys i v h' tk bs e hv hrd' hk => ?_)
    · cases ns with
      | cons _ _ => cases e
      | nil => exact ⟨.int d, H, I.kept (t' := tk) hk, ⟨td, rfl⟩, q⟩
    · cases ns with
      | nil => cases e
      | cons n r =>
        rw [List.map_cons] at e
        injection e with e1 e2
        subst e1 e2
        rw [minD_ints] at hrd'
        cases hrd' with
        | int _ t => exact ⟨.int (r.foldl min n), H, I.kept (t' := tk) hk, ⟨t, rfl⟩, q⟩
end
theorem fold_maxI : ∀ (r : List Int) (m : Int), r.foldl max m = maxI m r
  | [], _ => rfl
  | x :: r, m => by
    rw [List.foldl_cons, maxI, fold_maxI r]
    congr 1
    by_cases q : m < x
    · simp only [q, decide_true, if_true]; omega
    · simp only [q, decide_false, Bool.false_eq_true, if_false]; omega
theorem fold_minI : ∀ (r : List Int) (m : Int), r.foldl min m = minI m r
  | [], _ => rfl
  | x :: r, m => by
    rw [List.foldl_cons, minI, fold_minI r]
    congr 1
    by_cases q : x < m
    · simp only [q, decide_true, if_true]; omega
    · simp only [q, decide_false, Bool.false_eq_true, if_false]; omega
def kMaxD (x d : U) (h : List UO) : Rs U := match d with
  | .int d => (match seqU h x with | some xs => (match toInts xs with | some ns => .ok (.int (match ns with | [] => d | n :: r => maxI n r)) h | none => .no) | none => .no)
  | _ => .no
def kMinD (x d : U) (h : List UO) : Rs U := match d with
  | .int d => (match seqU h x with | some xs => (match toInts xs with | some ns => .ok (.int (match ns with | [] => d | n :: r => minI n r)) h | none => .no) | none => .no)
  | _ => .no
section
variable {X : Cx} {G : Cfg} {W : WX} {a b : Expr} {fa fb : Ev} {pos p kp : Pos} {k : Nat}
theorem PK.imp {X : Cx} {e : List Keyword} {t t' : TA} (h : PK X e t) (i : ∀ σ H Q, t' σ H Q → t σ H Q) : PK X e t' := ⟨fun pos pins s σ H Q I q => h.run pos pins s σ H Q I (i σ H Q q)⟩
theorem f_maxD (hK : X.K = G.K) (hr : Room k X.A) (hg : Gl X "max") (hm : X.mg "max" = none) (ha : PE X a (tE G fa W)) (hb : PE X b (tE G fb W))
    (na : starEach [a] X.env = (false, eval a X.env) :: starEach [] X.env := by rfl) (he : backTo pos (starEach [a] X.env) = (false, eval a X.env) :: backTo pos (starEach [] X.env) := by rfl) (hpl : (backTo pos (starEach [a] X.env)).any (·.1) = false := by rfl)
    (hall : (backToKw pos (keywordEach [⟨some "default", b, kp⟩] X.env)).all (·.1.isSome) = true := by rfl) (hnone : (backToKw pos (keywordEach [⟨some "default", b, kp⟩] X.env)).any (·.1.isNone) = false := by rfl) (hks : (backToKw pos (keywordEach [⟨some "default", b, kp⟩] X.env)).filterMap (·.1) = [Str.ofString "default"] := by rfl) :
    PE X (.Call (.Name "max" p) [a] [⟨some "default", b, kp⟩] pos) (tE G (e2 kMaxD fa fb) W) :=
  PE.imp (pe_callBK (r := rMaxD X.K) (cr_maxD hr) hg hm (by decide +kernel) (pa_cons ha pa_nil na) (pk_cons hb pk_nil) (he := he) (hpl := hpl) (hall := hall) (hnone := hnone) (hks := hks)) fun σ H Q h => by
    refine two_of (r := fun x y H Q => rMaxD X.K [x] [y] H Q) ?_ h
    intro w σ W x y va vb Q m rx ry h
    unfold kMaxD at h
    split at h
    · rename_i d
      cases ry
      split at h
      · rename_i xs q
        split at h
        · rename_i ns q2
          obtain ⟨p, vs, rfl, hs, l⟩ := seqU_of m rx q
          obtain ⟨rfl, _⟩ := toInts_of l q2
          refine ⟨p, ns, d, rfl, rfl, by rw [hK]; exact hs, ?_⟩
          cases ns with
          | nil => exact h.int m
          | cons n r =>
            dsimp only
            rw [fold_maxI]
            exact h.int m
        · exact h.elim
      · exact h.elim
    · exact h.elim
theorem f_minD (hK : X.K = G.K) (hr : Room k X.A) (hg : Gl X "min") (hm : X.mg "min" = none) (ha : PE X a (tE G fa W)) (hb : PE X b (tE G fb W))
    (na : starEach [a] X.env = (false, eval a X.env) :: starEach [] X.env := by rfl) (he : backTo pos (starEach [a] X.env) = (false, eval a X.env) :: backTo pos (starEach [] X.env) := by rfl) (hpl : (backTo pos (starEach [a] X.env)).any (·.1) = false := by rfl)
    (hall : (backToKw pos (keywordEach [⟨some "default", b, kp⟩] X.env)).all (·.1.isSome) = true := by rfl) (hnone : (backToKw pos (keywordEach [⟨some "default", b, kp⟩] X.env)).any (·.1.isNone) = false := by rfl) (hks : (backToKw pos (keywordEach [⟨some "default", b, kp⟩] X.env)).filterMap (·.1) = [Str.ofString "default"] := by rfl) :
    PE X (.Call (.Name "min" p) [a] [⟨some "default", b, kp⟩] pos) (tE G (e2 kMinD fa fb) W) :=
  PE.imp (pe_callBK (r := rMinD X.K) (cr_minD hr) hg hm (by decide +kernel) (pa_cons ha pa_nil na) (pk_cons hb pk_nil) (he := he) (hpl := hpl) (hall := hall) (hnone := hnone) (hks := hks)) fun σ H Q h => by
    refine two_of (r := fun x y H Q => rMinD X.K [x] [y] H Q) ?_ h
    intro w σ W x y va vb Q m rx ry h
    unfold kMinD at h
    split at h
    · rename_i d
      cases ry
      split at h
      · rename_i xs q
        split at h
        · rename_i ns q2
          obtain ⟨p, vs, rfl, hs, l⟩ := seqU_of m rx q
          obtain ⟨rfl, _⟩ := toInts_of l q2
          refine ⟨p, ns, d, rfl, rfl, by rw [hK]; exact hs, ?_⟩
          cases ns with
          | nil => exact h.int m
          | cons n r =>
            dsimp only
            rw [fold_minI]
            exact h.int m
        · exact h.elim
      · exact h.elim
    · exact h.elim
end
/-! ### isinstance of a built-in class -/
inductive Cty where
  | int | bool | tup | lst | str | dict
def Cty.name : Cty → String
  | .int => "int" | .bool => "bool" | .tup => "tuple" | .lst => "list" | .str => "str" | .dict => "dict"
def isiN : Cty → Bool | _ => false
def isiB : Cty → Bool | .int => true | .bool => true | _ => false
def isiI : Cty → Bool | .int => true | _ => false
def isiS : Cty → Bool | .str => true | _ => false
def isiT : Cty → Bool | .tup => true | _ => false
def isiL : Cty → Bool | .lst => true | _ => false
def isiD : Cty → Bool | .dict => true | _ => false
theorem kitN (c : Cty) : L2.kitB "NoneType" c.name = some (isiN c) := by cases c <;> decide +kernel
theorem kitBo (c : Cty) : L2.kitB "bool" c.name = some (isiB c) := by cases c <;> decide +kernel
theorem kitI (c : Cty) : L2.kitB "int" c.name = some (isiI c) := by cases c <;> decide +kernel
theorem kitS (c : Cty) : L2.kitB "str" c.name = some (isiS c) := by cases c <;> decide +kernel
theorem kitT (c : Cty) : L2.kitB "tuple" c.name = some (isiT c) := by cases c <;> decide +kernel
theorem kitL (c : Cty) : L2.kitB "list" c.name = some (isiL c) := by cases c <;> decide +kernel
theorem kitD (c : Cty) : L2.kitB "dict" c.name = some (isiD c) := by cases c <;> decide +kernel
def kIsi (c : Cty) (x : U) (h : List UO) : Rs U := match x with
  | .int _ => .ok (.bl (isiI c)) h
  | .bl _ => .ok (.bl (isiB c)) h
  | .tup _ => .ok (.bl (isiT c)) h
  | .non => .ok (.bl (isiN c)) h
  | .str _ => .ok (.bl (isiS c)) h
  | .fl _ => .ok (.bl (isiL c)) h
  | .ref i => (match h[i]? with | some (.lst _) => .ok (.bl (isiL c)) h | some (.dk _) => .ok (.bl (isiD c)) h | some (.dt _) => .ok (.bl (isiD c)) h | _ => .no)
  | _ => .no
section
variable {X : Cx} {G : Cfg} {W : WX} {a b : Expr} {fa fb : Ev} {pos p p2 : Pos} {k : Nat}
theorem f_isi (c : Cty) {T : Str} (hK : X.K = G.K) (hg : Gl X "isinstance") (hm : X.mg "isinstance" = none) (hgT : Gl X T) (hmT : X.mg T = none) (hvT : bootBuiltins T = some (.type c.name)) (ha : PE X a (tE G fa W))
    (hn : T ≠ "__name__" := by decide) (hd : (T == ("__debug__" : Str)) = false := by decide)
    (na : starEach [a, .Name T p2] X.env = (false, eval a X.env) :: starEach [.Name T p2] X.env := by rfl) (nb : starEach [.Name T p2] X.env = (false, eval (.Name T p2) X.env) :: starEach [] X.env := by rfl) (hpl : (backTo pos (starEach [.Name T p2] X.env)).any (·.1) = false := by rfl) :
    PE X (.Call (.Name "isinstance" p) [a, .Name T p2] [] pos) (tE G (e1 (kIsi c) fa) W) :=
  PE.imp (pe_callB (call_isi (X := X)) hg hm (by decide +kernel) (pa_cons ha (pa_cons (pe_bltn (v := .ty c.name) hgT hmT hvT rfl hn hd) pa_nil nb) na) (he := na) (hpl := hpl)) fun σ _ Q ⟨us, w, e, m, sl, h⟩ => by
    subst e
    refine ⟨us, w, rfl, m, sl, (Pt.bind h).imp ?_⟩
    rintro v H1 ⟨w1, u, rfl, e1, m1, r1, h1⟩
    rw [hK]
    have go : ∀ {t : String} {b : Bool}, TyX G.K w1.H v (.type t) → L2.kitB t c.name = some b → Q (.bl b) w1.H → rIsi G.K [v, .ty c.name] w1.H Q := fun {t b} ht hk q => ⟨v, _, _, _, b, rfl, .ty _, ht, kit_ty hk, q⟩
    cases r1 with
    | non => exact go (.base .non) (kitN c) (h1.bl m1)
    | bl x => exact go (.base (.bl x)) (kitBo c) (h1.bl m1)
    | int x => exact go (.base (.int x)) (kitI c) (h1.bl m1)
    | str x => exact go (.base (.str x)) (kitS c) (h1.bl m1)
    | tup g1 l =>
      refine go ?_ (kitT c) (h1.bl m1)
      rcases g1 with (g1 | ⟨o, g1⟩) | ⟨o, its, n, g1, g2, _⟩
      · exact .base (.tup g1)
      · exact .fTuple g1
      · exact .kTuple g1 g2
    | fl g1 g2 l => exact go (.base (.lst g1)) (kitL c) (h1.bl m1)
    | @ref i a g1 =>
      unfold kIsi at h1
      dsimp only at h1
      split at h1
      · rename_i xs q
        cases m1.obj _ _ _ g1 q with
        | lst g2 l => exact go (.base (.lst g2)) (kitL c) (h1.bl m1)
      · rename_i xs q
        cases m1.obj _ _ _ g1 q with
        | dk g2 l => exact go (.base (.dK g2)) (kitD c) (h1.bl m1)
      · rename_i xs q
        cases m1.obj _ _ _ g1 q with
        | dt g2 l => exact go (.base (.dT g2)) (kitD c) (h1.bl m1)
      · exact h1.elim
    | scr _ => exact False.elim h1
    | ty _ => exact False.elim h1
    | cls _ => exact False.elim h1
    | tx _ _ _ => exact False.elim h1
    | ob _ _ _ _ => exact False.elim h1
end
end Fn
/-! enumerate of a list or a tuple, with a start or without: for HandS's loops -/
namespace Fn
open PySem L2 PySem.Spec PyProof.Rows
theorem meets_enum1 {v : Value} {o : Obj} {H : Heap → Prop} (B : Begins v o H) :
    Meets (Builtin.«enumerate.__new__» ⟨[.type "enumerate", v], []⟩) (fun _ R s => H s.heap ∧
      R (.ok (.ret (.ref (s.heap.push o).objs.size))) { s with heap := (s.heap.push o).push { cls := .type "enumerate", data := .fields #[.none, .bool false, .ref s.heap.objs.size, rawInt 0, .none, .none] } }) :=
  .of_wp fun prog w A R s h => by
    obtain ⟨hp, g, d, tk, os⟩ := s; obtain ⟨h1, h⟩ := h
    have hsub := sub_enumerate
    have q1 : ∀ {A' : Around} {E : Value → Shared → Prop} {Q : Value → Shared → Prop}, Q (.ref hp.objs.size) ⟨hp.push o, g, d, tk, os⟩ → wpAny (model prog w) A' (pyIter v) Q E ⟨hp, g, d, tk, os⟩ :=
      fun q => B.iter prog w _ _ ⟨hp, g, d, tk, os⟩ _ h1 q
    wp_walk using q1
    refine wpAny_stack_any fun st => wpAny_pure ?_
    split
    · rename_i c _ _ _ _ _
      cases (c == Value.type "enumerate")
      · wp_walk using q1
        exact ⟨_, rfl, h⟩
      · wp_walk using q1
        exact ⟨_, rfl, h⟩
    · wp_walk using q1
      exact ⟨_, rfl, h⟩
theorem enum_begins1 {prog : Program} {w : World} {A : Around} {E : Value → Shared → Prop} {s : Shared} {v : Value} {o : Obj} {H : Heap → Prop} {Q : Value → Shared → Prop} (B : Begins v o H) (h1 : H s.heap)
    (h : ∀ h', IsEnum h' (s.heap.objs.size + 1) s.heap.objs.size 0 .none → h'.get? s.heap.objs.size = some o → h'.objs.size = s.heap.objs.size + 2 →
      (∀ b o, s.heap.get? b = some o → h'.get? b = some o) → Q (.ref (s.heap.objs.size + 1)) { s with heap := h' }) :
    wpAny (model prog w) A (call (.type "enumerate") [v]) Q E s := by
  refine callType_new F.called_enumerate (by decide) (F.typeCall_enumerate_1 _) (F.newCall_enumerate_1 _) (fun obj => F.args_object_init_2 obj _) F.entry_enumerate_new
    (meets_enum1 B) ⟨h1, ?_⟩
  have hz : (s.heap.push o).objs.size = s.heap.objs.size + 1 := Heap.size_push ..
  show _ ∧ _
  rw [hz]
  have he : IsEnum ((s.heap.push o).push { cls := .type "enumerate", data := .fields #[.none, .bool false, .ref s.heap.objs.size, rawInt 0, .none, .none] }) (s.heap.objs.size + 1) s.heap.objs.size 0 .none := by
    have := Heap.get?_push_size (s.heap.push o) (o := { cls := .type "enumerate", data := .fields #[.none, .bool false, .ref s.heap.objs.size, rawInt 0, .none, .none] }) rfl
    rw [hz] at this; exact this
  refine ⟨⟨_, he, rfl⟩, h _ he (Heap.get?_push_of_some _ (Heap.get?_push_size _ B.free)) (by rw [Heap.size_push, hz]) fun b o x => Heap.get?_push_of_some _ (Heap.get?_push_of_some _ x)⟩
/-- enumerate from c of what S tells at each turn -/
def Iten (S : Hp → List V → Prop) (c : Int) : It :=
  ⟨fun i H => ∃ (xs : List V) (x : V), S H xs ∧ xs[i]? = some x, fun i H v H' => ∃ T x, v = .ref T ∧ H T = none ∧ H' = upd H T (.tup [.int (c + (i : Nat)), x]) ∧ ∀ xs, S H xs → xs[i]? = some x, fun i H => ∃ xs : List V, S H xs ∧ xs.length ≤ i⟩
/-- the shared part of both turns -/
theorem enum_item {X : Cx} {S : Hp → List V → Prop} {c : Int} {a e it : Addr} {i : Nat} {pins : List (Addr × Obj)} {s : Shared} {σ : L2.St} {H : Hp} {E : Value → Shared → Prop} {elts : List Expr} {kk : Nat} {tpos : Pos}
    {tn : Nat → Heap → Prop} {P : Nat → Value → Prop} {St : Nat → Heap → Prop} {n : Nat} {x : V} {old : Value}
    (I : Inv X pins σ H s) (hf : ∀ b ∈ [e, it], FpOk X pins H b) (D : Draws X.prog X.w X.A.in1 it [it, a] n P St) (he : IsEnum s.heap e it (c + (i : Nat)) old) (hst : St i s.heap) (hlt : i < n) (hne : e ≠ it) (hea : e ≠ a)
    (hP : ∀ u, P i u → RelV x u) (hS : ∀ xs, S H xs → xs[i]? = some x) (hil : it < s.heap.objs.size) (al : a < s.heap.objs.size)
    (hk : ∀ h', (∃ old, IsEnum h' e it (c + ((i + 1 : Nat) : Int)) old) → St (i + 1) h' → tn (i + 1) h') :
    wpAny (model X.prog X.w) X.A (pyNext (.ref e)) (fun r s1 => ∃ u, r = some u ∧
      wpAny (model X.prog X.w) X.A (letOwnedTupleGo (.Tuple elts kk tpos) (.ref e) u) (fun _ s2 => ∃ x H', Inv X pins σ H' s2 ∧ RelV x u ∧ (Iten S c).yld i H x H' ∧ tn (i + 1) s2.heap ∧ ∀ b ∈ [e, it], H' b = none) E s1) E s := by
  have hel : e < s.heap.objs.size := Heap.lt_size he
  refine wpAny_pyNext_enum_itemC D he hst hlt hne (by simp [hne, hea]) fun u h' tk hPu ho hst' hT hsz hkp => ?_
  have ru := hP u hPu
  refine ⟨_, rfl, wpAny_letOwnedTupleGo_enum (s := { s with heap := h', toks := tk + 1 }) ho fun h'' he' sb => ?_⟩
  have hT2 : h''.get? s.heap.objs.size = some { cls := .type "tuple", data := .seq #[.int (c + (i : Nat)) tk, u] } := (sb.2 _ (Nat.ne_of_gt hel)).trans hT
  have new : ObjOk X.prog X.w (upd H s.heap.objs.size (.tup [.int (c + (i : Nat)), x])) h'' s.heap.objs.size (.tup [.int (c + (i : Nat)), x]) :=
    ⟨by show 2 ≤ sizeLine; decide, [.int (c + (i : Nat)) tk, u], .cons ⟨_, rfl⟩ (.cons ru .nil), ⟨_, hT2, rfl, _, rfl⟩⟩
  have I1 : Inv X pins σ (upd H s.heap.objs.size (.tup [.int (c + (i : Nat)), x])) { s with heap := h'', toks := tk + 1 } :=
    I.turnedNew (ch := [e, it]) (fun b ob hb q => (sb.2 b (fun z => hb (by simp [z]))).trans (hkp b ob (fun z => hb (by simp [z])) (fun z => hb (by simp [z])) q)) hf (Nat.le_refl _) new
  refine ⟨.ref s.heap.objs.size, _, I1, rfl, ⟨_, x, rfl, I.hok.fresh (Nat.le_refl _), rfl, hS⟩, hk _ ⟨u, ?_⟩ (D.frame _ _ _ hst' fun b hb o q => (sb.2 b (fun z => ?_)).trans q), fun b hb => ?_⟩
  · have e1 : c + ((i + 1 : Nat) : Int) = c + (i : Nat) + 1 := by omega
    rw [e1]; exact he'
  · rw [z] at hb
    simp only [List.mem_cons, List.not_mem_nil, or_false] at hb
    exact hb.elim hne hea
  · have hb' : b < s.heap.objs.size := by
      have e' : b = e ∨ b = it := by simpa using hb
      rcases e' with z | z
      · rw [z]; exact hel
      · rw [z]; exact hil
    rw [upd_ne (Nat.ne_of_lt hb')]
    exact (hf b hb).1
theorem turn_enL {P : Program} {w : World} {K : PySem.W.Frag} {elts : List Expr} {kk : Nat} {tpos : Pos} (c : Int) (a e it : Addr) :
    Turn P w K (.Tuple elts kk tpos) (Iten (fun H xs => SqL K H a xs) c) [e, it] e (fun i h => (∃ old, IsEnum h e it (c + (i : Nat)) old) ∧ h.IsListIter it a i ∧ e ≠ it ∧ e ≠ a ∧ a ≠ it) where
  mem := by simp
  obj := fun i h st b hb => by
    obtain ⟨⟨old, he⟩, ⟨o, ho, hc, hd⟩, _⟩ := st
    have e' : b = e ∨ b = it := by simpa using hb
    rcases e' with z | z
    · rw [z]; exact ⟨_, he, fun v q => nomatch q⟩
    · rw [z]; exact ⟨o, ho, fun v q => by rw [hd] at q; cases q⟩
  keep := fun i h h' st k => let ⟨⟨old, he⟩, hi, hne⟩ := st; ⟨⟨old, k e (by simp) _ he⟩, hi.at fun o q => k it (by simp) o q, hne⟩
  item := by
    intro X hP hw hK hc i pins s σ H E I hf st hg
    subst hP hw hK
    obtain ⟨⟨old, he⟩, hit, hne, hea, hai⟩ := st
    obtain ⟨xs, x, hq, hx⟩ := hg
    obtain ⟨its, rv, p, hz⟩ := I.list hq
    obtain ⟨u, hu, ru⟩ := rv.get hx
    have hil : it < s.heap.objs.size := by obtain ⟨_, q, _⟩ := hit; exact Heap.lt_size q
    have hlt : i < its.toArray.size := by simpa using (List.getElem?_eq_some_iff.mp hu).1
    refine enum_item (S := fun H xs => SqL X.K H a xs) (tn := fun i h => (∃ old, IsEnum h e it (c + (i : Nat)) old) ∧ h.IsListIter it a i ∧ e ≠ it ∧ e ≠ a ∧ a ≠ it) I hf (Draws.list (A := X.A.in1) (I.ok.hd hc) it a hai its.toArray) he ⟨hit, p.isList⟩ hlt hne hea (x := x) (fun u' hu' => ?_) (fun ys hy => by rw [I.list_inj hy hq]; exact hx) hil p.lt (fun h' h1 h2 => ⟨h1, h2.1, hne, hea, hai⟩)
    have : u = u' := by
      have hu' : its.toArray[i]? = some u' := hu'
      simp at hu'
      rw [hu] at hu'
      exact Option.some.inj hu'
    exact this ▸ ru
  done := by
    intro X hP hw hK hc i pins s σ H E I hf st hg
    subst hP hw hK
    obtain ⟨⟨old, he⟩, hit, hne, hea, hai⟩ := st
    obtain ⟨xs, hq, hx⟩ := hg
    obtain ⟨its, rv, p, hz⟩ := I.list hq
    obtain ⟨f0, f1, f2, f3, f4, f5⟩ := hf it (by simp)
    have hl := rv.length
    have hT : s.TypeIs (.ref e) "enumerate" := ⟨_, he, rfl⟩
    unfold pyNext
    refine wpAny_bind (wpAny_attempt (wpAny_callSpecial?_slot (name := Str.ofString "__next__") hT F.slot_enumerate_next
      (wpAny_call_entry F.slot_enumerate_next hT F.entry_enumerate_next ?_ (F.args_enumerate_next_1 _))))
    show wpAny _ _ (field (.ref e) 2 >>= _) _ _ _
    refine wpAny_bind (wpAny_field he rfl (x := .ref it) rfl ?_)
    refine wpAny_bind (wpAny_nextOf_list_end (A := X.A.in1) (I.ok.hd hc) hit p.isList (by simp; omega) fun h' x he' hx' => ?_)
    obtain ⟨o, ho, hc'⟩ := hx'
    refine wpAny_bind (wpAny_isInstance (T := "StopIteration") (b := true) ⟨o, ho, hc'⟩ isSubtype_stop ?_)
    exact wpAny_pure ⟨rfl, I.turned (t' := s.toks) (fun b o hb q => he' b o hb q) f0 f1 f3 f4 f5⟩
  self := fun A i s Q E st h => let ⟨⟨_, he⟩, _⟩ := st; wpAny_pyIter_enum he h
theorem turn_enT {P : Program} {w : World} {K : PySem.W.Frag} {elts : List Expr} {kk : Nat} {tpos : Pos} (c : Int) (a e it : Addr) :
    Turn P w K (.Tuple elts kk tpos) (Iten (fun H xs => SqT K H a xs) c) [e, it] e (fun i h => (∃ old, IsEnum h e it (c + (i : Nat)) old) ∧ h.IsTupleIter it a i ∧ e ≠ it ∧ e ≠ a ∧ a ≠ it) where
  mem := by simp
  obj := fun i h st b hb => by
    obtain ⟨⟨old, he⟩, ⟨o, ho, hc, hd⟩, _⟩ := st
    have e' : b = e ∨ b = it := by simpa using hb
    rcases e' with z | z
    · rw [z]; exact ⟨_, he, fun v q => nomatch q⟩
    · rw [z]; exact ⟨o, ho, fun v q => by rw [hd] at q; cases q⟩
  keep := fun i h h' st k => let ⟨⟨old, he⟩, hi, hne⟩ := st; ⟨⟨old, k e (by simp) _ he⟩, hi.at fun o q => k it (by simp) o q, hne⟩
  item := by
    intro X hP hw hK hc i pins s σ H E I hf st hg
    subst hP hw hK
    obtain ⟨⟨old, he⟩, hit, hne, hea, hai⟩ := st
    obtain ⟨xs, x, hq, hx⟩ := hg
    obtain ⟨its, rv, p, hz⟩ := I.tuple hq
    obtain ⟨u, hu, ru⟩ := rv.get hx
    have hil : it < s.heap.objs.size := by obtain ⟨_, q, _⟩ := hit; exact Heap.lt_size q
    have hlt : i < its.toArray.size := by simpa using (List.getElem?_eq_some_iff.mp hu).1
    refine enum_item (S := fun H xs => SqT X.K H a xs) (tn := fun i h => (∃ old, IsEnum h e it (c + (i : Nat)) old) ∧ h.IsTupleIter it a i ∧ e ≠ it ∧ e ≠ a ∧ a ≠ it) I hf (Draws.tuple (A := X.A.in1) (I.ok.hd hc) it a hai its.toArray) he ⟨hit, p⟩ hlt hne hea (x := x) (fun u' hu' => ?_) (fun ys hy => by rw [I.tuple_inj hy hq]; exact hx) hil p.lt (fun h' h1 h2 => ⟨h1, h2.1, hne, hea, hai⟩)
    have : u = u' := by
      have hu' : its.toArray[i]? = some u' := hu'
      simp at hu'
      rw [hu] at hu'
      exact Option.some.inj hu'
    exact this ▸ ru
  done := by
    intro X hP hw hK hc i pins s σ H E I hf st hg
    subst hP hw hK
    obtain ⟨⟨old, he⟩, hit, hne, hea, hai⟩ := st
    obtain ⟨xs, hq, hx⟩ := hg
    obtain ⟨its, rv, p, hz⟩ := I.tuple hq
    obtain ⟨f0, f1, f2, f3, f4, f5⟩ := hf it (by simp)
    have hl := rv.length
    have hT : s.TypeIs (.ref e) "enumerate" := ⟨_, he, rfl⟩
    unfold pyNext
    refine wpAny_bind (wpAny_attempt (wpAny_callSpecial?_slot (name := Str.ofString "__next__") hT F.slot_enumerate_next
      (wpAny_call_entry F.slot_enumerate_next hT F.entry_enumerate_next ?_ (F.args_enumerate_next_1 _))))
    show wpAny _ _ (field (.ref e) 2 >>= _) _ _ _
    refine wpAny_bind (wpAny_field he rfl (x := .ref it) rfl ?_)
    refine wpAny_bind (wpAny_nextOf_tuple_end (A := X.A.in1) (I.ok.hd hc) hit p (by simp; omega) fun h' x he' hx' => ?_)
    obtain ⟨o, ho, hc'⟩ := hx'
    refine wpAny_bind (wpAny_isInstance (T := "StopIteration") (b := true) ⟨o, ho, hc'⟩ isSubtype_stop ?_)
    exact wpAny_pure ⟨rfl, I.turned (t' := s.toks) (fun b o hb q => he' b o hb q) f0 f1 f3 f4 f5⟩
  self := fun A i s Q E st h => let ⟨⟨_, he⟩, _⟩ := st; wpAny_pyIter_enum he h
/-- what an enumerate goes over -/
def iEnA (K : PySem.W.Frag) (ta : TA) : TI := fun σ H R => ta σ H fun vs H1 => ∃ (a : Addr) (xs : List V) (c : Int), (vs = [.ref a] ∧ c = 0 ∨ (vs = [.ref a, .int c] ∧ -(2 ^ 63) ≤ c ∧ c < 2 ^ 63)) ∧
  ((SqL K H1 a xs ∧ R (Iten (fun H xs => SqL K H a xs) c) H1) ∨ (SqT K H1 a xs ∧ R (Iten (fun H xs => SqT K H a xs) c) H1))
theorem enum_end {X : Cx} {pins : List (Addr × Obj)} {σ : L2.St} {H1 : Hp} {s1 : Shared} {a : Addr} {c : Int} {xs : List V} {R : It → Hp → Prop} {elts : List Expr} {kk : Nat} {tpos : Pos} {h' : Heap} {o : Obj} {E : Value → Shared → Prop} (I1 : Inv X pins σ H1 s1)
    (hk : ∀ b o, s1.heap.get? b = some o → h'.get? b = some o) (he : IsEnum h' (s1.heap.objs.size + 1) s1.heap.objs.size c .none) (al : a < s1.heap.objs.size)
    (q : (h'.IsListIter s1.heap.objs.size a 0 ∧ R (Iten (fun H xs => SqL X.K H a xs) c) H1) ∨ (h'.IsTupleIter s1.heap.objs.size a 0 ∧ R (Iten (fun H xs => SqT X.K H a xs) c) H1)) :
    wpAny (model X.prog X.w) X.A (pyIter (.ref (s1.heap.objs.size + 1))) (PIE X pins σ (.Tuple elts kk tpos) R) E { s1 with heap := h' } := by
  have I2 : Inv X pins σ H1 { s1 with heap := h' } := I1.kept (t' := s1.toks) hk
  have hle : ∀ b ∈ [s1.heap.objs.size + 1, s1.heap.objs.size], FpOk X pins H1 b := fun b hb => by
    have e' : b = s1.heap.objs.size + 1 ∨ b = s1.heap.objs.size := by simpa using hb
    have hle : s1.heap.objs.size ≤ b := by
      rcases e' with z | z
      · rw [z]; exact Nat.le_add_right _ _
      · rw [z]; exact Nat.le_refl _
    exact I1.fpOk hle (I1.hok.fresh hle)
  have c0 : c + ((0 : Nat) : Int) = c := by simp
  refine wpAny_pyIter_enum he ?_
  rcases q with ⟨hit, q⟩ | ⟨hit, q⟩
  · exact ⟨s1.heap.objs.size + 1, [s1.heap.objs.size + 1, s1.heap.objs.size], _, _, H1, rfl, I2, turn_enL c a (s1.heap.objs.size + 1) s1.heap.objs.size, ⟨⟨.none, by rw [c0]; exact he⟩, hit, Nat.succ_ne_self _, (Nat.ne_of_gt (Nat.lt_succ_of_lt al)), (Nat.ne_of_lt al)⟩, hle, q⟩
  · exact ⟨s1.heap.objs.size + 1, [s1.heap.objs.size + 1, s1.heap.objs.size], _, _, H1, rfl, I2, turn_enT c a (s1.heap.objs.size + 1) s1.heap.objs.size, ⟨⟨.none, by rw [c0]; exact he⟩, hit, Nat.succ_ne_self _, (Nat.ne_of_gt (Nat.lt_succ_of_lt al)), (Nat.ne_of_lt al)⟩, hle, q⟩
theorem pi_enumA {X : Cx} {e : Expr} {es : List Expr} {ta : TA} {p pos tpos : Pos} {elts : List Expr} {kk : Nat} (hg : Gl X "enumerate") (hm : X.mg "enumerate" = none) (ha : PA X (e :: es) ta)
    (hs : starEach (e :: es) X.env = (false, eval e X.env) :: starEach es X.env := by rfl) (hpl : (backTo pos (starEach es X.env)).any (·.1) = false := by rfl) :
    PI X (.Tuple elts kk tpos) (.Call (.Name "enumerate" p) (e :: es) [] pos) (iEnA X.K ta) := by
  refine ⟨fun pins s σ H R I h => ?_⟩
  refine Call_ (ld_blt I hg hm boot_enumerate (PyProof.Rows.callWith_type1 (thn (ha.run pos pins s σ H _ I h) fun us s1 ⟨vs, H1, I1, r1, q1⟩ => ?_) hs hpl))
  obtain ⟨a, xs, c, ex, q⟩ := q1
  have iterAt : ∀ {h' : Heap}, (h'.get? s1.heap.objs.size = some { cls := .type "list_iterator", data := .fields #[.ref a, .int 0 0] } → h'.IsListIter s1.heap.objs.size a 0) ∧
      (h'.get? s1.heap.objs.size = some { cls := .type "tuple_iterator", data := .fields #[.ref a, .int 0 0] } → h'.IsTupleIter s1.heap.objs.size a 0) := fun {h'} => ⟨fun q => ⟨_, q, rfl, rfl⟩, fun q => ⟨_, q, rfl, rfl⟩⟩
  rcases ex with ⟨rfl, rfl⟩ | ⟨rfl, hc0, hc1⟩
  · cases r1 with
    | cons r rr =>
      cases rr
      cases r
      rcases q with ⟨hq, q⟩ | ⟨hq, q⟩
      · obtain ⟨its, rv, p', hz⟩ := I1.list hq
        exact enum_begins1 (begins_list a its.toArray) p'.isList fun h' he hit hsz hk => enum_end (o := default) (xs := xs) I1 hk he p'.lt (.inl ⟨iterAt.1 hit, q⟩)
      · obtain ⟨its, rv, p', hz⟩ := I1.tuple hq
        exact enum_begins1 (begins_tuple a its.toArray) p' fun h' he hit hsz hk => enum_end (o := default) (xs := xs) I1 hk he p'.lt (.inr ⟨iterAt.2 hit, q⟩)
  · cases r1 with
    | cons r rr =>
      cases rr with
      | cons r2 rr =>
        cases rr
        cases r
        obtain ⟨t, rfl⟩ := r2
        rcases q with ⟨hq, q⟩ | ⟨hq, q⟩
        · obtain ⟨its, rv, p', hz⟩ := I1.list hq
          exact enum_begins (begins_list a its.toArray) p'.isList hc0 hc1 fun h' he hit hsz hk => enum_end (o := default) (xs := xs) I1 hk he p'.lt (.inl ⟨iterAt.1 hit, q⟩)
        · obtain ⟨its, rv, p', hz⟩ := I1.tuple hq
          exact enum_begins (begins_tuple a its.toArray) p' hc0 hc1 fun h' he hit hsz hk => enum_end (o := default) (xs := xs) I1 hk he p'.lt (.inr ⟨iterAt.2 hit, q⟩)
end Fn
namespace Fn
open PySem L2
/-! ### statements -/
abbrev Sv := Lo → List UO → Rt
def PtS (G : Cfg) (W : WX) (w : Wd) (r : Rt) (D : Ends) : Prop :=
  match r with
  | .nx us h => ∀ (w' : Wd) (σ' : L2.St), w'.h = h → Ext w w' → Sm G w' → SL G w' us σ' → D.nx σ' w'.H
  | .bk us h => ∀ (w' : Wd) (σ' : L2.St), w'.h = h → Ext w w' → Sm G w' → SL G w' us σ' → D.bk σ' w'.H
  | .ct us h => ∀ (w' : Wd) (σ' : L2.St), w'.h = h → Ext w w' → Sm G w' → SL G w' us σ' → D.ct σ' w'.H
  | .rt u h => ∀ (w' : Wd) (v : V), w'.h = h → Ext w w' → Sm G w' → R G w' u v → D.rt v w'.H
  | .ex e us h => ∀ (w' : Wd) (σ' : L2.St) (cls : Value) (d : Option Addr), w'.h = h → Ext w w' → Sm G w' → SL G w' us σ' → RX G w' e cls d → W cls d σ' w'.H
  | .no => False
def tS (G : Cfg) (g : Sv) (W : WX) : TS := fun D σ H => ∃ us w, w.H = H ∧ Sm G w ∧ SL G w us σ ∧ PtS G W w (g us w.h) D
def Rs.then {α : Type} (r : Rs α) (us : Lo) (k : α → List UO → Rt) : Rt :=
  match r with
  | .ok a h => k a h
  | .ex e h => .ex e us h
  | .no => .no
section
variable {α β : Type} {G : Cfg} {Rel : Wd → α → β → Prop} {W : WX} {σ : L2.St} {w w1 : Wd} {D : Ends}
theorem PtS.weak {r : Rt} (e : Ext w w1) (h : PtS G W w r D) : PtS G W w1 r D := by
  cases r with
  | nx us hh => exact fun w' s a b => h w' s a (e.trans b)
  | bk us hh => exact fun w' s a b => h w' s a (e.trans b)
  | ct us hh => exact fun w' s a b => h w' s a (e.trans b)
  | rt u hh => exact fun w' s a b => h w' s a (e.trans b)
  | ex x us hh => exact fun w' s c d a b => h w' s c d a (e.trans b)
  | no => exact h
theorem PtS.then {r : Rs α} {k : α → List UO → Rt} {us : Lo} (m : Sm G w) (sl : SL G w us σ) (h : PtS G W w (r.then us k) D) :
    Pt G Rel W σ w r fun b H1 => ∃ w1 a, w1.H = H1 ∧ Ext w w1 ∧ Sm G w1 ∧ Rel w1 a b ∧ SL G w1 us σ ∧ PtS G W w1 (k a w1.h) D := by
  cases r with
  | ok a hh =>
    intro w' b e1 e2 m' rl
    subst e1
    exact ⟨w', a, rfl, e2, m', rl, sl.up m e2, PtS.weak e2 h⟩
  | ex x hh => exact fun w' c d e1 e2 m' rx => h w' σ c d e1 e2 m' (sl.up m e2) rx
  | no => exact h
theorem PtS.imp {r : Rt} {D' : Ends} (h : PtS G W w r D) (h1 : ∀ σ H, D.nx σ H → D'.nx σ H) (h2 : ∀ σ H, D.bk σ H → D'.bk σ H) (h3 : ∀ σ H, D.ct σ H → D'.ct σ H) (h4 : ∀ v H, D.rt v H → D'.rt v H) : PtS G W w r D' := by
  cases r with
  | nx us hh => exact fun w' s a b c d => h1 _ _ (h w' s a b c d)
  | bk us hh => exact fun w' s a b c d => h2 _ _ (h w' s a b c d)
  | ct us hh => exact fun w' s a b c d => h3 _ _ (h w' s a b c d)
  | rt u hh => exact fun w' s a b c d => h4 _ _ (h w' s a b c d)
  | ex x us hh => exact h
  | no => exact h
end
section
variable {X : Cx} {G : Cfg} {W : WX} {e : Expr} {f : Ev} {pos : Pos}
def gNx : Sv := fun us h => .nx us h
def gSeq (a b : Sv) : Sv := fun us h => match a us h with
  | .nx us1 h1 => b us1 h1
  | r => r
theorem ss_nil : PSs X [] (tS G gNx W) := PSs.imp pss_nil fun D σ _ ⟨us, w, e, m, sl, h⟩ => by
  subst e
  exact h w σ rfl (Ext.refl w) m sl
theorem ss_cons {st : Stmt} {rest : List Stmt} {a b : Sv} (h1 : PS X st (tS G a W)) (h2 : PSs X rest (tS G b W)) : PSs X (st :: rest) (tS G (gSeq a b) W) :=
  PSs.imp (pss_cons h1 h2) fun D σ _ ⟨us, w, e, m, sl, h⟩ => by
    subst e
    refine ⟨us, w, rfl, m, sl, ?_⟩
    unfold gSeq at h
    cases q : a us w.h with
    | nx us1 hh =>
      rw [q] at h
      intro w' σ' e1 e2 m' sl'
      subst e1
      exact ⟨us1, w', rfl, m', sl', PtS.weak e2 h⟩
    | bk us1 hh => rw [q] at h; exact h
    | ct us1 hh => rw [q] at h; exact h
    | rt u hh => rw [q] at h; exact h
    | ex x us1 hh => rw [q] at h; exact h
    | no => rw [q] at h; exact h
theorem ss_one {st : Stmt} {a : Sv} (h1 : PS X st (tS G a W)) : PSs X [st] (tS G a W) := pss_one h1
theorem s_pass : PS X (.Pass pos) (tS G gNx W) := PS.imp ps_pass fun D σ _ ⟨us, w, e, m, sl, h⟩ => by
  subst e
  exact h w σ rfl (Ext.refl w) m sl
def gBk : Sv := fun us h => .bk us h
def gCt : Sv := fun us h => .ct us h
theorem s_break : PS X (.Break pos) (tS G gBk W) := PS.imp ps_break fun D σ _ ⟨us, w, e, m, sl, h⟩ => by
  subst e
  exact h w σ rfl (Ext.refl w) m sl
theorem s_continue : PS X (.Continue pos) (tS G gCt W) := PS.imp ps_continue fun D σ _ ⟨us, w, e, m, sl, h⟩ => by
  subst e
  exact h w σ rfl (Ext.refl w) m sl
def gEx (f : Ev) : Sv := fun us h => (f us h).then us fun _ h1 => .nx us h1
theorem s_expr (he : PE X e (tE G f W)) (hs : swapsWith e none pos.line X.env = pure false := by rfl) : PS X (.Expr e pos) (tS G (gEx f) W) :=
  PS.imp (ps_expr he hs) fun D σ _ ⟨us, w, e, m, sl, h⟩ => by
    subst e
    refine ⟨us, w, rfl, m, sl, (PtS.then m sl h).imp ?_⟩
    rintro v H1 ⟨w1, a, rfl, e1, m1, r1, sl1, h1⟩
    exact h1 w1 σ rfl (Ext.refl _) m1 sl1
def gRet (f : Ev) : Sv := fun us h => (f us h).then us fun u h1 => .rt u h1
theorem s_ret (he : PE X e (tE G f W)) : PS X (.Return (some e) pos) (tS G (gRet f) W) :=
  PS.imp (ps_ret he) fun D σ _ ⟨us, w, e, m, sl, h⟩ => by
    subst e
    refine ⟨us, w, rfl, m, sl, (PtS.then m sl h).imp ?_⟩
    rintro v H1 ⟨w1, a, rfl, e1, m1, r1, sl1, h1⟩
    exact h1 w1 v rfl (Ext.refl _) m1 r1
def gRetN : Sv := fun _ h => .rt .non h
theorem s_retN : PS X (.Return none pos) (tS G gRetN W) := PS.imp ps_retN fun D σ _ ⟨us, w, e, m, sl, h⟩ => by
  subst e
  exact h w .non rfl (Ext.refl w) m .non
def gIf (c : EvB) (a b : Sv) : Sv := fun us h => (c us h).then us fun b1 h1 => match b1 with | true => a us h1 | false => b us h1
theorem s_if {c : Expr} {fc : EvB} {a b : List Stmt} {ga gb : Sv} (hc : PT X c (tT G fc W)) (ha : PSs X a (tS G ga W)) (hb : PSs X b (tS G gb W)) : PS X (.If c a b pos) (tS G (gIf fc ga gb) W) :=
  PS.imp (ps_if hc ha hb) fun D σ _ ⟨us, w, e, m, sl, h⟩ => by
    subst e
    refine ⟨us, w, rfl, m, sl, (PtS.then (Rel := fun _ (a b : Bool) => a = b) m sl h).imp ?_⟩
    rintro v H1 ⟨w1, a, rfl, e1, m1, rfl, sl1, h1⟩
    cases a with
    | true => exact ⟨us, w1, rfl, m1, sl1, h1⟩
    | false => exact ⟨us, w1, rfl, m1, sl1, h1⟩
/-- name = value -/
def gSet (i : Nat) (f : Ev) : Sv := fun us h => (f us h).then us fun u h1 => .nx (us.set i (some u)) h1
theorem set_of {i : Nat} {D : Ends} {σ : L2.St} {H : Hp} (h : tS G (gSet i f) W D σ H) : tE G f W σ H fun x H1 => gName i x σ H1 D.nx := by
  obtain ⟨us, w, rfl, m, sl, h⟩ := h
  refine ⟨us, w, rfl, m, sl, (PtS.then m sl h).imp ?_⟩
  rintro v H1 ⟨w1, a, rfl, e1, m1, r1, sl1, h1⟩
  exact h1 w1 _ rfl (Ext.refl _) m1 (sl1.set r1 i)
theorem s_set {i : Nat} {x : Str} {pos' : Pos} (hN : X.N.Nodup) (hi : X.N[i]? = some x) (hx : Loc X.env.scope x) (he : PE X e (tE G f W)) (hs : swapsWith e (some (.Name x pos')) pos.line X.env = pure false := by rfl) (hf : X.fn x = true ∨ X.env.scope.names.lookup x = some .local := by first | exact .inl rfl | exact .inr rfl | assumption) :
    PS X (.Assign [.Name x pos'] e pos) (tS G (gSet i f) W) := PS.imp (ps_set (i := i) hN hi hx he hs hf) fun _ _ _ h => set_of h
/-- o[i] = value: a list -/
def kPut (o i v : U) (h : List UO) : Rs Unit := match o, i with
  | .ref p, .int k => (match h[p]? with
    | some (.lst xs) => (match ixN xs.length k with | some j => .ok () (h.set p (.lst (xs.set j v))) | none => .no)
    | _ => .no)
  | _, _ => .no
def gPut (fo fi fv : Ev) : Sv := fun us h => (fv us h).then us fun v h1 => (fo us h1).then us fun o h2 => (fi us h2).then us fun i h3 => (kPut o i v h3).then us fun _ h4 => .nx us h4
theorem putL {w : Wd} {i : Nat} {a : Addr} {xs ys : List U} {vs ws : List V} (m : Sm G w) (hr : w.r[i]? = some a) (hx : w.h[i]? = some (.lst xs)) (l : RL G w ys ws) :
    Ext w (w.put i a (.lst ys) (.lst ws)) ∧ Sm G (w.put i a (.lst ys) (.lst ws)) := by
  have e : Ext w (w.put i a (.lst ys) (.lst ws)) := Ext.put m hr hx
  exact ⟨e, m.put hr hx (.lst upd_same (l.up m e))⟩
theorem s_put {o i : Expr} {fo fi fv : Ev} {tpos : Pos} (he : PE X e (tE G fv W)) (ho : PE X o (tE G fo W)) (hi : PE X i (tE G fi W))
    (hs : swapsWithSole [.Subscript o i tpos] e pos.line X.env = pure false := by rfl) (hw : swappedStores [.Subscript o i tpos] e X.env = pure none := by rfl) (h1 : (assignEach [.Subscript o i tpos] X.env).map (·.2) = [assign (.Subscript o i tpos) X.env] := by rfl)
    (ha : ∀ v, assign (.Subscript o i tpos) X.env v = (do
      let ov ← holding [v] (eval o X.env)
      let iv ← holding [v, ov] (eval i X.env)
      standAt tpos
      holding [v, ov, iv] (setItem ov iv v)
      release [v, ov, iv] []) := by intro _; rfl) : PS X (.Assign [.Subscript o i tpos] e pos) (tS G (gPut fo fi fv) W) :=
  PS.imp (ps_asg he (pg_sub ho hi set_list ha) hs hw h1) fun D σ _ ⟨us, w, e, m, sl, h⟩ => by
    subst e
    refine ⟨us, w, rfl, m, sl, (PtS.then m sl h).imp ?_⟩
    rintro v H1 ⟨w1, uv, rfl, e1, m1, r1, sl1, h1⟩
    refine ⟨us, w1, rfl, m1, sl1, (PtS.then (Rel := R G) m1 sl1 h1).imp ?_⟩
    rintro ov H2 ⟨w2, uo, rfl, e2, m2, r2, sl2, h2⟩
    refine ⟨us, w2, rfl, m2, sl2, (PtS.then (Rel := R G) m2 sl2 h2).imp ?_⟩
    rintro iv H3 ⟨w3, ui, rfl, e3, m3, r3, sl3, h3⟩
    have r2 := r2.up m2 e3
    have r1 := r1.up m1 (e2.trans e3)
    unfold kPut at h3
    split at h3
    · cases r2 with
      | @ref p a hr =>
        cases r3 with
        | int k =>
          split at h3
          · rename_i xs q
            split at h3
            · rename_i j q2
              cases m3.obj _ _ _ hr q with
              | @lst _ vs hv l =>
                obtain ⟨ex, sm⟩ := putL (vs := vs) m3 hr q (l.set r1 j)
                exact ⟨a, vs, _, j, rfl, rfl, hv, by rw [← l.length]; exact q2, h3 _ σ rfl ex sm (sl3.up m3 ex)⟩
            · exact h3.elim
          · exact h3.elim
    · exact h3.elim
end
/-! ### targets -/
abbrev Tgt := U → Lo → Option Lo
/-- the slots but sl are as they were -/
def Ag (sl : List Nat) (σ σ' : L2.St) : Prop := σ'.length = σ.length ∧ ∀ j, j ∉ sl → σ'[j]? = σ[j]?
def tG (G : Cfg) (a : Tgt) (sl : List Nat) : TG := fun v σ H Q => ∃ u us w, w.H = H ∧ Sm G w ∧ SL G w us σ ∧ R G w u v ∧
  match a u us with
  | some us' => ∀ σ', SL G w us' σ' → Ag sl σ σ' → Q σ' H
  | none => False
def tGs (G : Cfg) (a : List U → Lo → Option Lo) (sl : List Nat) : TGs := fun vs σ H Q => ∃ u us w, w.H = H ∧ Sm G w ∧ SL G w us σ ∧ RL G w u vs ∧
  match a u us with
  | some us' => ∀ σ', SL G w us' σ' → Ag sl σ σ' → Q σ' H
  | none => False
def aName (i : Nat) : Tgt := fun u us => some (us.set i (some u))
def aNil : List U → Lo → Option Lo := fun u us => match u with | [] => some us | _ => none
def aCons (a : Tgt) (b : List U → Lo → Option Lo) : List U → Lo → Option Lo := fun u us => match u with
  | x :: r => (match a x us with | some us1 => b r us1 | none => none)
  | [] => none
def aTup (b : List U → Lo → Option Lo) : Tgt := fun u us => match u with | .tup xs => b xs us | _ => none
theorem PGs.imp {X : Cx} {e : List Expr} {t t' : TGs} (h : PGs X e t) (i : ∀ v σ H Q, t' v σ H Q → t v σ H Q) : PGs X e t' := ⟨fun pins s σ H v u Q I r q => h.run pins s σ H v u Q I r (i v σ H Q q)⟩
section
variable {X : Cx} {G : Cfg} {pos : Pos}
theorem g_name {i : Nat} {x : Str} (hN : X.N.Nodup) (hi : X.N[i]? = some x) (hx : Loc X.env.scope x) (hf : X.fn x = true ∨ X.env.scope.names.lookup x = some .local := by first | exact .inl rfl | exact .inr rfl | assumption) : PG X (.Name x pos) (tG G (aName i) [i]) :=
  PG.imp (pg_name (i := i) hN hi hx hf) fun v σ _ Q ⟨u, us, w, e, m, sl, r, h⟩ => by
    subst e
    exact h _ (sl.set r i) ⟨List.length_set, fun j hj => List.getElem?_set_ne (fun z : i = j => hj (by simp [z]))⟩
theorem gs_nil : PGs X [] (tGs G aNil []) := PGs.imp pgs_nil fun vs σ _ Q ⟨u, us, w, e, m, sl, r, h⟩ => by
  subst e
  cases r with
  | nil => exact ⟨rfl, h σ sl ⟨rfl, fun _ _ => rfl⟩⟩
  | cons _ _ => exact h.elim
theorem tG_len {G : Cfg} {w : Wd} {us us' : Lo} {σ : L2.St} (a : SL G w us σ) (h : us'.length = us.length) : us'.length = σ.length := h.trans a.1
theorem gs_cons {e : Expr} {es : List Expr} {a : Tgt} {b : List U → Lo → Option Lo} {s1 s2 : List Nat} (h1 : PG X e (tG G a s1)) (h2 : PGs X es (tGs G b s2))
    (hs : (assignEach (e :: es) X.env).map (·.2) = assign e X.env :: (assignEach es X.env).map (·.2) := by rfl) : PGs X (e :: es) (tGs G (aCons a b) (s1 ++ s2)) :=
  PGs.imp (pgs_cons h1 h2 hs) fun vs σ _ Q ⟨u, us, w, e, m, sl, r, h⟩ => by
    subst e
    cases r with
    | nil => exact h.elim
    | @cons x v xs vs r t =>
      refine ⟨v, vs, rfl, x, us, w, rfl, m, sl, r, ?_⟩
      unfold aCons at h
      dsimp only at h
      cases q : a x us with
      | none => rw [q] at h; exact h.elim
      | some us1 =>
        rw [q] at h
        dsimp only at h ⊢
        intro σ1 sl1 ag1
        refine ⟨xs, us1, w, rfl, m, sl1, t, ?_⟩
        cases q2 : b xs us1 with
        | none => rw [q2] at h; exact h.elim
        | some us2 =>
          rw [q2] at h
          intro σ2 sl2 ag2
          refine h σ2 sl2 ⟨ag2.1.trans ag1.1, fun j hj => ?_⟩
          rw [List.mem_append, not_or] at hj
          rw [ag2.2 j hj.2, ag1.2 j hj.1]
theorem g_tup {es : List Expr} {k n : Nat} {b : List U → Lo → Option Lo} {sl : List Nat} (hK : X.K = G.K) (hc : X.calm = true) (h : PGs X es (tGs G b sl)) (hl : ∀ xs us us', b xs us = some us' → xs.length = n)
    (hn : (assignEach es X.env).length = n := by rfl) (hst : (assignEach es X.env).findIdx? (·.1) = none := by rfl) : PG X (.Tuple es k pos) (tG G (aTup b) sl) :=
  PG.imp (pg_tup hc h hn hst) fun v σ _ Q ⟨u, us, w, e, m, sl, r, h⟩ => by
    subst e
    cases r with
    | @tup a xs vs h1 l =>
      have h : (match b xs us with | some us' => ∀ σ', SL G w us' σ' → Ag _ σ σ' → Q σ' w.H | none => False) := h
      cases q : b xs us with
      | none => rw [q] at h; exact h.elim
      | some us' =>
        rw [q] at h
        exact ⟨a, vs, rfl, by rw [hK]; exact h1.1, by rw [← l.length]; exact hl _ _ _ q, xs, us, w, rfl, m, sl, l, by rw [q]; exact h⟩
    | _ => exact h.elim
theorem aNil_len : ∀ (xs : List U) (us us' : Lo), aNil xs us = some us' → xs.length = 0
  | [], _, _, _ => rfl
  | _ :: _, _, _, h => nomatch h
theorem aCons_len {a : Tgt} {b : List U → Lo → Option Lo} {n : Nat} (h : ∀ (xs : List U) (us us' : Lo), b xs us = some us' → xs.length = n) : ∀ (xs : List U) (us us' : Lo), aCons a b xs us = some us' → xs.length = n + 1
  | [], _, _, q => nomatch q
  | x :: r, us, us', q => by
    unfold aCons at q
    dsimp only at q
    split at q
    · rw [List.length_cons, h _ _ _ q]
    · cases q
/-- target = value, a target of several names -/
def gAsg (a : Tgt) (f : Ev) : Sv := fun us h => (f us h).then us fun u h1 => match a u us with | some us1 => .nx us1 h1 | none => .no
theorem s_asg {W : WX} {tg e : Expr} {f : Ev} {a : Tgt} {sl : List Nat} (he : PE X e (tE G f W)) (hg : PG X tg (tG G a sl)) (hs : swapsWithSole [tg] e pos.line X.env = pure false := by rfl) (hw : swappedStores [tg] e X.env = pure none := by rfl)
    (h1 : (assignEach [tg] X.env).map (·.2) = [assign tg X.env] := by rfl) : PS X (.Assign [tg] e pos) (tS G (gAsg a f) W) :=
  PS.imp (ps_asg he hg hs hw h1) fun D σ _ ⟨us, w, e, m, sl, h⟩ => by
    subst e
    refine ⟨us, w, rfl, m, sl, (PtS.then m sl h).imp ?_⟩
    rintro v H1 ⟨w1, u, rfl, e1, m1, r1, sl1, h1⟩
    refine ⟨u, us, w1, rfl, m1, sl1, r1, ?_⟩
    split at h1
    · rename_i us1 q
      try rw [q]
      exact fun σ' sl' _ => h1 w1 σ' rfl (Ext.refl _) m1 sl'
    · exact h1.elim
end
/-! ### what is walked -/
inductive Src where
  | fix (xs : List U)
  | dyn (it : Nat → List UO → Option (Option U))
def Src.at (s : Src) (i : Nat) (h : List UO) : Option (Option U) := match s with
  | .fix xs => some xs[i]?
  | .dyn it => it i h
/-- the iterator J gives what src tells, in all that comes -/
def JR (G : Cfg) (w : Wd) (src : Src) (J : It) : Prop := ∀ (w' : Wd), Ext w w' → Sm G w' → ∀ i, match src.at i w'.h with
  | some (some u) => J.go i w'.H ∧ ∀ x H', J.yld i w'.H x H' → ∃ w'' : Wd, w''.H = H' ∧ w''.h = w'.h ∧ Ext w' w'' ∧ Sm G w'' ∧ R G w'' u x
  | some none => J.stop i w'.H
  | none => True
abbrev EvI := Lo → List UO → Rs Src
abbrev tI (G : Cfg) (f : EvI) (W : WX) : TI := tX G (JR G) f W
def dynL (p : Nat) : Src := .dyn fun i h => match h[p]? with | some (.lst xs) => some xs[i]? | _ => none
theorem JR.up {G : Cfg} {w w1 : Wd} {src : Src} {J : It} (e : Ext w w1) (h : JR G w src J) : JR G w1 src J := fun w' e' m i => h w' (e.trans e') m i
section
variable {G : Cfg} {w : Wd} {K : PySem.W.Frag}
theorem jr_fl {a : Addr} {xs : List U} (m : Sm G w) (r : R G w (.fl xs) (.ref a)) : JR G w (.fix xs) (Itl G.K a) := by
  intro w' e m' i
  cases r.up m e with
  | @fl _ _ vs h1 h2 l =>
    show (match some xs[i]? with | some (some u) => _ | some none => _ | none => True)
    cases q : xs[i]? with
    | none => exact ⟨vs, .inl (.inl h1), by rw [← l.length]; exact List.getElem?_eq_none_iff.mp q⟩
    | some u =>
      obtain ⟨v, hv, rv⟩ := l.get q
      refine ⟨⟨vs, v, .inl (.inl h1), hv⟩, fun x H' ⟨e1, hy⟩ => ⟨w', e1.symm, rfl, Ext.refl _, m', ?_⟩⟩
      have := hy vs (.inl (.inl h1))
      rw [hv] at this
      exact Option.some.inj this ▸ rv
theorem jr_scr {a : Addr} {xs : List Int} (m : Sm G w) (r : R G w (.scr xs) (.ref a)) : JR G w (.fix (xs.map U.int)) (Itl G.K a) := by
  intro w' e m' i
  have hr := r.up m e
  have hq : SqL G.K w'.H a (xs.map V.int) := by
    cases hr with
    | scr h1 =>
      rcases h1 with ⟨o, h1⟩ | h1
      · exact .inl (.inr ⟨o, h1⟩)
      · exact h1 _
  show (match some (xs.map U.int)[i]? with | some (some u) => _ | some none => _ | none => True)
  cases q : xs[i]? with
  | none =>
    rw [List.getElem?_map, q]
    exact ⟨_, hq, by rw [List.length_map]; exact List.getElem?_eq_none_iff.mp q⟩
  | some z =>
    rw [List.getElem?_map, q]
    have hv : (xs.map V.int)[i]? = some (.int z) := by rw [List.getElem?_map, q]; rfl
    refine ⟨⟨_, _, hq, hv⟩, fun x H' ⟨e1, hy⟩ => ⟨w', e1.symm, rfl, Ext.refl _, m', ?_⟩⟩
    have := hy _ hq
    rw [hv] at this
    exact Option.some.inj this ▸ .int z
theorem jr_ref {a : Addr} {p : Nat} (m : Sm G w) (r : R G w (.ref p) (.ref a)) : JR G w (dynL p) (Itl G.K a) := by
  intro w' e m' i
  cases r.up m e with
  | ref h1 =>
    show (match (match w'.h[p]? with | some (.lst xs) => some xs[i]? | _ => none) with | some (some u) => _ | some none => _ | none => True)
    cases q : w'.h[p]? with
    | none => trivial
    | some o =>
      cases o with
      | lst xs =>
        cases m'.obj _ _ _ h1 q with
        | @lst _ vs h2 l =>
          dsimp only
          cases q2 : xs[i]? with
          | none => exact ⟨vs, .inl (.inl h2), by rw [← l.length]; exact List.getElem?_eq_none_iff.mp q2⟩
          | some u =>
            obtain ⟨v, hv, rv⟩ := l.get q2
            refine ⟨⟨vs, v, .inl (.inl h2), hv⟩, fun x H' ⟨e1, hy⟩ => ⟨w', e1.symm, rfl, Ext.refl _, m', ?_⟩⟩
            have := hy vs (.inl (.inl h2))
            rw [hv] at this
            exact Option.some.inj this ▸ rv
      | _ => trivial
theorem jr_tup {a : Addr} {xs : List U} (m : Sm G w) (r : R G w (.tup xs) (.ref a)) : JR G w (.fix xs) (Itt G.K a) := by
  intro w' e m' i
  cases r.up m e with
  | @tup _ _ vs h1 l =>
    show (match some xs[i]? with | some (some u) => _ | some none => _ | none => True)
    cases q : xs[i]? with
    | none => exact ⟨vs, h1.1, by rw [← l.length]; exact List.getElem?_eq_none_iff.mp q⟩
    | some u =>
      obtain ⟨v, hv, rv⟩ := l.get q
      refine ⟨⟨vs, v, h1.1, hv⟩, fun x H' ⟨e1, hy⟩ => ⟨w', e1.symm, rfl, Ext.refl _, m', ?_⟩⟩
      have := hy vs h1.1
      rw [hv] at this
      exact Option.some.inj this ▸ rv
end
/-- any list, tuple or text -/
def signsU (x : Str) : List U := x.cps.toList.map fun c => U.str ⟨#[c]⟩
def eSeq (f : Ev) : EvI := fun us h => (f us h).bind fun u h1 => match u with
  | .fl xs => .ok (.fix xs) h1
  | .tup xs => .ok (.fix xs) h1
  | .scr xs => .ok (.fix (xs.map .int)) h1
  | .ref p => (match h1[p]? with | some (.lst _) => .ok (dynL p) h1 | _ => .no)
  | .str x => .ok (.fix (signsU x)) h1
  | _ => .no
def iSeq (K : PySem.W.Frag) (tl : TE) : TI := fun σ H R => tl σ H fun x H1 =>
  (∃ a, x = .ref a ∧ (∃ xs, SqL K H1 a xs) ∧ R (Itl K a) H1) ∨ (∃ a, x = .ref a ∧ (∃ xs, SqT K H1 a xs) ∧ R (Itt K a) H1) ∨ (∃ z, x = .str z ∧ R (Its z) H1)
theorem pi_seq {X : Cx} {tg l : Expr} {tl : TE} (hl : PE X l tl) : PI X tg l (iSeq X.K tl) := by
  refine ⟨fun pins s σ H R I h => ?_⟩
  have hsplit : ∀ {v : Value} {s1 : Shared} {x : V} {H1 : Hp}, Inv X pins σ H1 s1 → RelV x v →
      ((∃ a, x = .ref a ∧ (∃ xs, SqL X.K H1 a xs) ∧ R (Itl X.K a) H1) ∨ (∃ a, x = .ref a ∧ (∃ xs, SqT X.K H1 a xs) ∧ R (Itt X.K a) H1) ∨ (∃ z, x = .str z ∧ R (Its z) H1)) →
      wpAny (model X.prog X.w) X.A (pyIter v) (PIE X pins σ tg R) X.xe s1 := by
    intro v s1 x H1 I1 r1 q1
    rcases q1 with ⟨a, rfl, ⟨xs, hq⟩, q⟩ | ⟨a, rfl, ⟨xs, hq⟩, q⟩ | ⟨z, rfl, q⟩
    · cases r1
      obtain ⟨its, rv, p, hz⟩ := I1.list hq
      refine wpAny_pyIter_list p.isList ?_
      refine ⟨s1.heap.objs.size, [s1.heap.objs.size], _, _, H1, rfl, I1.kept (t' := s1.toks) fun b o e => Heap.get?_push_of_some _ e, turn_list a _, ⟨_, Heap.get?_push_size _ rfl, rfl, rfl⟩, fun b hb => ?_, q⟩
      have e : b = s1.heap.objs.size := by simpa using hb
      subst e
      exact I1.fpOk (Nat.le_refl _) (I1.hok.fresh (Nat.le_refl _))
    · cases r1
      obtain ⟨its, rv, p, hz⟩ := I1.tuple hq
      refine wpAny_pyIter_tuple (show s1.heap.IsTuple a its.toArray from p) ?_
      refine ⟨s1.heap.objs.size, [s1.heap.objs.size], _, _, H1, rfl, I1.kept (t' := s1.toks) fun b o e => Heap.get?_push_of_some _ e, turn_tuple a _, ⟨_, Heap.get?_push_size _ rfl, rfl, rfl⟩, fun b hb => ?_, q⟩
      have e : b = s1.heap.objs.size := by simpa using hb
      subst e
      exact I1.fpOk (Nat.le_refl _) (I1.hok.fresh (Nat.le_refl _))
    · obtain ⟨t, rfl⟩ := r1
      cases ha : z.cps.all (· < 128)
      · exact wpAny_pyIter_wide ha (pi_one (tk := s1.toks) I1 _ (turn_str _ z t "str_iterator" (.inr rfl)) ⟨_, Heap.get?_push_size _ rfl, rfl, rfl⟩ q)
      · exact wpAny_pyIter_ascii ha (pi_one (tk := s1.toks) I1 _ (turn_str _ z t "str_ascii_iterator" (.inl rfl)) ⟨_, Heap.get?_push_size _ rfl, rfl, rfl⟩ q)
  exact thn (hl.run pins s σ H _ I h) fun v s1 ⟨x, H1, I1, r1, q1⟩ => hsplit I1 r1 q1
section
variable {G : Cfg} {w : Wd}
theorem jr_str {x : Str} : JR G w (.fix (signsU x)) (Its x) := by
  intro w' e m' i
  show (match some (signsU x)[i]? with | some (some u) => _ | some none => _ | none => True)
  unfold signsU
  rw [List.getElem?_map, Array.getElem?_toList]
  cases q : x.cps[i]? with
  | none => exact Array.getElem?_eq_none_iff.mp q
  | some c =>
    refine ⟨(Array.getElem?_eq_some_iff.mp q).1, fun y H' ⟨e1, d, hd, ey⟩ => ⟨w', e1.symm, rfl, Ext.refl _, m', ?_⟩⟩
    rw [q] at hd
    cases hd
    subst ey
    exact .str _
theorem jr_rgC {lo c : Int} {n : Nat} : JR G w (.fix ((List.range n).map fun i => U.int (lo + (i : Nat) * c))) (Itc lo c n) := by
  intro w' e m' i
  show (match some ((List.range n).map fun i => U.int (lo + (i : Nat) * c))[i]? with | some (some u) => _ | some none => _ | none => True)
  rw [List.getElem?_map]
  by_cases hi : i < n
  · rw [List.getElem?_range hi]
    refine ⟨hi, fun y H' ⟨e1, ey⟩ => ⟨w', e1.symm, rfl, Ext.refl _, m', ?_⟩⟩
    subst ey
    exact .int _
  · rw [List.getElem?_eq_none (by simpa using hi)]
    exact Nat.le_of_not_lt hi
theorem jr_rg {lo : Int} {n : Nat} : JR G w (.fix ((List.range n).map fun i => U.int (lo + (i : Nat)))) (Itr lo n) := by
  intro w' e m' i
  show (match some ((List.range n).map fun i => U.int (lo + (i : Nat)))[i]? with | some (some u) => _ | some none => _ | none => True)
  rw [List.getElem?_map]
  by_cases hi : i < n
  · rw [List.getElem?_range hi]
    refine ⟨hi, fun y H' ⟨e1, ey⟩ => ⟨w', e1.symm, rfl, Ext.refl _, m', ?_⟩⟩
    subst ey
    exact .int _
  · rw [List.getElem?_eq_none (by simpa using hi)]
    exact Nat.le_of_not_lt hi
/-- enumerate -/
def enumU (c : Int) : List U → List U
  | [] => []
  | x :: r => .tup [.int c, x] :: enumU (c + 1) r
theorem enumU_get : ∀ (xs : List U) (c : Int) (i : Nat), (enumU c xs)[i]? = xs[i]?.map fun x => U.tup [.int (c + (i : Nat)), x]
  | [], c, i => by simp [enumU]
  | x :: r, c, 0 => by simp [enumU]
  | x :: r, c, i + 1 => by
    have e : c + 1 + (i : Int) = c + ((i + 1 : Nat) : Int) := by omega
    simp only [enumU, List.getElem?_cons_succ]
    rw [enumU_get r (c + 1) i, e]
theorem pairNew {w' : Wd} (m' : Sm G w') {u1 u2 : U} {v1 v2 : V} {T : Addr} (hT : w'.H T = none) (r1 : R G w' u1 v1) (r2 : R G w' u2 v2) :
    ∃ w'' : Wd, w''.H = upd w'.H T (.tup [v1, v2]) ∧ w''.h = w'.h ∧ Ext w' w'' ∧ Sm G w'' ∧ R G w'' (.tup [u1, u2]) (.ref T) :=
  ⟨w'.new T (.tup [v1, v2]), rfl, rfl, Ext.new hT, m'.new hT, .tup (.new upd_same) ((RL.cons r1 (.cons r2 .nil)).up m' (Ext.new hT))⟩
theorem jr_en {S : Hp → List V → Prop} {c : Int} {get : List UO → Option (List U)} (hS : ∀ (w' : Wd), Ext w w' → Sm G w' → ∀ xs, get w'.h = some xs → ∃ vs, S w'.H vs ∧ RL G w' xs vs) :
    JR G w (.dyn fun i h => (get h).map fun xs => xs[i]?.map fun x => U.tup [.int (c + (i : Nat)), x]) (Iten S c) := by
  intro w' e m' i
  show (match (get w'.h).map fun xs => xs[i]?.map fun x => U.tup [.int (c + (i : Nat)), x] with | some (some u) => _ | some none => _ | none => True)
  cases q : get w'.h with
  | none => trivial
  | some xs =>
    obtain ⟨vs, hs, l⟩ := hS w' e m' xs q
    rw [Option.map_some]
    cases q2 : xs[i]? with
    | none => exact ⟨vs, hs, by rw [← l.length]; exact List.getElem?_eq_none_iff.mp q2⟩
    | some u =>
      obtain ⟨v, hv, rv⟩ := l.get q2
      refine ⟨⟨vs, v, hs, hv⟩, fun x H' ⟨T, y, e1, hT, e2, hy⟩ => ?_⟩
      subst e1 e2
      have := hy vs hs
      rw [hv] at this
      cases this
      exact pairNew m' hT (.int _) rv
theorem jr_enF {S : Hp → List V → Prop} {c : Int} {xs : List U} (hS : ∀ (w' : Wd), Ext w w' → Sm G w' → ∃ vs, S w'.H vs ∧ RL G w' xs vs) : JR G w (.fix (enumU c xs)) (Iten S c) := by
  intro w' e m' i
  have := jr_en (get := fun _ => some xs) (c := c) (S := S) (w := w) (G := G) (fun w' e m ys q => by cases q; exact hS w' e m) w' e m' i
  show (match some (enumU c xs)[i]? with | some (some u) => _ | some none => _ | none => True)
  rw [enumU_get]
  exact this
/-- zip -/
def zipU : List U → List U → List U
  | x :: r, y :: t => .tup [x, y] :: zipU r t
  | _, _ => []
theorem zipU_get : ∀ (xs ys : List U) (i : Nat), (zipU xs ys)[i]? = (match xs[i]?, ys[i]? with | some x, some y => some (U.tup [x, y]) | _, _ => none)
  | [], _, i => by simp [zipU]
  | x :: r, [], i => by cases h : (x :: r)[i]? <;> simp [zipU]
  | x :: r, y :: t, 0 => by simp [zipU]
  | x :: r, y :: t, i + 1 => by
    simp only [zipU, List.getElem?_cons_succ]
    exact zipU_get r t i
theorem zip_step {w' : Wd} (m' : Sm G w') {S1 S2 : Hp → List V → Prop} {xs ys : List U} {vs ws : List V} (h1 : S1 w'.H vs) (h2 : S2 w'.H ws) (l1 : RL G w' xs vs) (l2 : RL G w' ys ws) (i : Nat) :
    match (match xs[i]?, ys[i]? with | some x, some y => some (U.tup [x, y]) | _, _ => none) with
    | some u => (∃ (xs ys : List V) (x y : V), S1 w'.H xs ∧ S2 w'.H ys ∧ xs[i]? = some x ∧ ys[i]? = some y) ∧ ∀ v H', (∃ T x y, v = .ref T ∧ w'.H T = none ∧ H' = upd w'.H T (.tup [x, y]) ∧ (∀ xs, S1 w'.H xs → xs[i]? = some x) ∧ ∀ ys, S2 w'.H ys → ys[i]? = some y) →
      ∃ w'' : Wd, w''.H = H' ∧ w''.h = w'.h ∧ Ext w' w'' ∧ Sm G w'' ∧ R G w'' u v
    | none => ∃ xs ys : List V, S1 w'.H xs ∧ S2 w'.H ys ∧ (xs.length ≤ i ∨ ys.length ≤ i) := by
  cases q1 : xs[i]? with
  | none => exact ⟨vs, ws, h1, h2, .inl (by rw [← l1.length]; exact List.getElem?_eq_none_iff.mp q1)⟩
  | some u1 =>
    cases q2 : ys[i]? with
    | none => exact ⟨vs, ws, h1, h2, .inr (by rw [← l2.length]; exact List.getElem?_eq_none_iff.mp q2)⟩
    | some u2 =>
      obtain ⟨v1, hv1, rv1⟩ := l1.get q1
      obtain ⟨v2, hv2, rv2⟩ := l2.get q2
      refine ⟨⟨vs, ws, v1, v2, h1, h2, hv1, hv2⟩, fun x H' ⟨T, y1, y2, e1, hT, e2, hy1, hy2⟩ => ?_⟩
      subst e1 e2
      have k1 := hy1 vs h1
      have k2 := hy2 ws h2
      rw [hv1] at k1
      rw [hv2] at k2
      cases k1
      cases k2
      exact pairNew m' hT rv1 rv2
end
section
variable {X : Cx} {G : Cfg} {W : WX} {e : Expr} {f : Ev} {fa : EvA} {pos p tpos : Pos} {tg : Expr}
theorem i_seq (hK : X.K = G.K) (he : PE X e (tE G f W)) : PI X tg e (tI G (eSeq f) W) :=
  PI.imp (pi_seq he) fun σ _ Rr ⟨us, w, e, m, sl, h⟩ => by
    subst e
    refine ⟨us, w, rfl, m, sl, (Pt.bind (Rel := R G) h).imp ?_⟩
    rintro v H1 ⟨w1, u, rfl, e1, m1, r1, h1⟩
    rw [hK]
    cases r1 with
    | @fl a xs vs g1 g2 l => exact .inl ⟨a, rfl, ⟨vs, .inl (.inl g1)⟩, h1 w1 _ rfl (Ext.refl _) m1 (jr_fl m1 (.fl g1 g2 l))⟩
    | @scr a xs g1 =>
      refine .inl ⟨a, rfl, ⟨xs.map V.int, ?_⟩, h1 w1 _ rfl (Ext.refl _) m1 (jr_scr m1 (.scr g1))⟩
      rcases g1 with ⟨o, g1⟩ | g1
      · exact .inl (.inr ⟨o, g1⟩)
      · exact g1 _
    | @tup a xs vs g1 l => exact .inr (.inl ⟨a, rfl, ⟨vs, g1.1⟩, h1 w1 _ rfl (Ext.refl _) m1 (jr_tup m1 (.tup g1 l))⟩)
    | @ref q a g1 =>
      have h1 : Pt G (JR G) W σ w1 (match w1.h[q]? with | some (.lst _) => .ok (dynL q) w1.h | _ => .no) Rr := h1
      split at h1
      · rename_i ys q2
        cases m1.obj _ _ _ g1 q2 with
        | @lst _ vs g2 l => exact .inl ⟨a, rfl, ⟨vs, .inl (.inl g2)⟩, h1 w1 _ rfl (Ext.refl _) m1 (jr_ref m1 (.ref g1))⟩
      · exact h1.elim
    | str x => exact .inr (.inr ⟨x, rfl, h1 w1 _ rfl (Ext.refl _) m1 jr_str⟩)
    | non => exact False.elim h1
    | bl _ => exact False.elim h1
    | int _ => exact False.elim h1
    | ty _ => exact False.elim h1
    | cls _ => exact False.elim h1
    | tx _ _ _ => exact False.elim h1
    | ob _ _ _ _ => exact False.elim h1
end
end Fn
namespace Fn
open PySem L2
/-! ### ranges, enumerate, zip as sources -/
def ir1 (f : Ev) : EvI := fun us h => (f us h).bind fun u h1 => match u with
  | .int n => (match rgOk 0 n with | true => .ok (.fix (rgU 0 n)) h1 | false => .no)
  | _ => .no
def ir2 (f g : Ev) : EvI := fun us h => (f us h).bind fun u h1 => (g us h1).bind fun v h2 => match u, v with
  | .int a, .int b => (match rgOk a b with | true => .ok (.fix (rgU a b)) h2 | false => .no)
  | _, _ => .no
/-- a, a - 1, .., b + 1 -/
def downU (a b : Int) : List U := (List.range (a - b).toNat).map fun i => U.int (a + (i : Nat) * (-1))
def ir3 (f g k : Ev) : EvI := fun us h => (f us h).bind fun u h1 => (g us h1).bind fun v h2 => (k us h2).bind fun z h3 => match u, v, z with
  | .int a, .int b, .int c => (match (c == -1) && rgOk b a with | true => .ok (.fix (downU a b)) h3 | false => .no)
  | _, _, _ => .no
theorem rgOk_b {a b : Int} (h : rgOk a b = true) : -(2 ^ 62) ≤ a ∧ a < 2 ^ 62 ∧ -(2 ^ 62) ≤ b ∧ b < 2 ^ 62 := by
  have q := rgOk_ok h
  exact ⟨q.1, q.2.1, q.2.2.1, q.2.2.2.1⟩
section
variable {X : Cx} {G : Cfg} {W : WX} {e a b c : Expr} {es : List Expr} {f g k : Ev} {fa : EvA} {pos p tpos : Pos} {tg : Expr}
theorem i_rng1 (hg : Gl X "range") (hm : X.mg "range" = none) (ha : PE X a (tE G f W)) (hs : starEach [a] X.env = [(false, eval a X.env)] := by rfl) : PI X tg (.Call (.Name "range" p) [a] [] pos) (tI G (ir1 f) W) :=
  PI.imp (pi_range1 hg hm (pa_cons ha pa_nil hs) hs) fun σ _ Rr ⟨us, w, e, m, sl, h⟩ => by
    subst e
    refine ⟨us, w, rfl, m, sl, (Pt.bind (Rel := R G) h).imp ?_⟩
    rintro v H1 ⟨w1, u, rfl, e1, m1, r1, h1⟩
    split at h1
    · rename_i n
      cases r1
      split at h1
      · rename_i q
        obtain ⟨_, _, b3, b4⟩ := rgOk_b q
        refine ⟨n, rfl, b3, b4, h1 w1 _ rfl (Ext.refl _) m1 ?_⟩
        have e0 : n - 0 = n := by omega
        unfold rgU
        rw [e0]
        exact jr_rg
      · exact h1.elim
    · exact h1.elim
theorem i_rng2 (hg : Gl X "range") (hm : X.mg "range" = none) (ha : PE X a (tE G f W)) (hb : PE X b (tE G g W)) (hs : starEach [a, b] X.env = [(false, eval a X.env), (false, eval b X.env)] := by rfl) (hs2 : starEach [b] X.env = [(false, eval b X.env)] := by rfl) :
    PI X tg (.Call (.Name "range" p) [a, b] [] pos) (tI G (ir2 f g) W) :=
  PI.imp (pi_range2 hg hm (pa_cons ha (pa_cons hb pa_nil hs2) (hs.trans (by rw [hs2]))) hs hs2) fun σ _ Rr ⟨us, w, e, m, sl, h⟩ => by
    subst e
    refine ⟨us, w, rfl, m, sl, (Pt.bind (Rel := R G) h).imp ?_⟩
    rintro v H1 ⟨w1, u, rfl, e1, m1, r1, h1⟩
    refine ⟨us, w1, rfl, m1, sl.up m e1, (Pt.bind (Rel := R G) h1).imp ?_⟩
    rintro v' H2 ⟨w2, u', rfl, e2, m2, r2, h2⟩
    have r1 := r1.up m1 e2
    split at h2
    · cases r1
      cases r2
      split at h2
      · rename_i q
        exact ⟨_, _, rfl, rgOk_b q, h2 w2 _ rfl (Ext.refl _) m2 jr_rg⟩
      · exact h2.elim
    · exact h2.elim
theorem i_rng3 (hg : Gl X "range") (hm : X.mg "range" = none) (ha : PE X a (tE G f W)) (hb : PE X b (tE G g W)) (hc : PE X c (tE G k W)) (hs : starEach [a, b, c] X.env = (false, eval a X.env) :: starEach [b, c] X.env := by rfl) (hs2 : starEach [b, c] X.env = (false, eval b X.env) :: starEach [c] X.env := by rfl)
    (hs3 : starEach [c] X.env = (false, eval c X.env) :: starEach [] X.env := by rfl) (hpl : (backTo pos (starEach [b, c] X.env)).any (·.1) = false := by rfl) : PI X tg (.Call (.Name "range" p) [a, b, c] [] pos) (tI G (ir3 f g k) W) :=
  PI.imp (pi_range3 hg hm (pa_cons ha (pa_cons hb (pa_cons hc pa_nil hs3) hs2) hs) hs hpl) fun σ _ Rr ⟨us, w, e, m, sl, h⟩ => by
    subst e
    refine ⟨us, w, rfl, m, sl, (Pt.bind (Rel := R G) h).imp ?_⟩
    rintro v H1 ⟨w1, u, rfl, e1, m1, r1, h1⟩
    refine ⟨us, w1, rfl, m1, sl.up m e1, (Pt.bind (Rel := R G) h1).imp ?_⟩
    rintro v' H2 ⟨w2, u', rfl, e2, m2, r2, h2⟩
    refine ⟨us, w2, rfl, m2, (sl.up m e1).up m1 e2, (Pt.bind (Rel := R G) h2).imp ?_⟩
    rintro v3 H3 ⟨w3, u3, rfl, e3, m3, r3, h3⟩
    have r1 := r1.up m1 (e2.trans e3)
    have r2 := r2.up m2 e3
    split at h3
    · cases r1
      cases r2
      cases r3
      split at h3
      · rename_i q
        rw [Bool.and_eq_true, beq_iff_eq] at q
        obtain ⟨rfl, q⟩ := q
        obtain ⟨b1, b2, b3, b4⟩ := rgOk_b q
        exact ⟨_, _, -1, _, rfl, RgC.neg b3 b4 b1 b2, h3 w3 _ rfl (Ext.refl _) m3 jr_rgC⟩
      · exact h3.elim
    · exact h3.elim
/-- enumerate(x), enumerate(x, c) -/
def enSrc (h : List UO) (c : Int) (u : U) : Option Src := match u with
  | .ref p => (match h[p]? with
    | some (.lst _) => some (.dyn fun i h' => (match h'[p]? with | some (.lst xs) => some xs | _ => none).map fun xs => xs[i]?.map fun x => U.tup [.int (c + (i : Nat)), x])
    | _ => none)
  | u => (match seqU h u with | some xs => some (.fix (enumU c xs)) | none => none)
def ien (fa : EvA) : EvI := fun us h => (fa us h).bind fun xs h1 => match xs with
  | [u] => (match enSrc h1 0 u with | some s => .ok s h1 | none => .no)
  | [u, .int c] => (match Nat.ble c.natAbs 1000000 with | true => (match enSrc h1 c u with | some s => .ok s h1 | none => .no) | false => .no)
  | _ => .no
theorem enSrc_of {w : Wd} (m : Sm G w) {u : U} {v : V} {c : Int} {s : Src} (r : R G w u v) (h : enSrc w.h c u = some s) :
    ∃ a vs, v = .ref a ∧ ((SqL G.K w.H a vs ∧ JR G w s (Iten (fun H xs => SqL G.K H a xs) c)) ∨ (SqT G.K w.H a vs ∧ JR G w s (Iten (fun H xs => SqT G.K H a xs) c))) := by
  cases r with
  | @ref p a h1 =>
    have h : (match w.h[p]? with | some (.lst _) => some (Src.dyn fun i h' => (match h'[p]? with | some (.lst xs) => some xs | _ => none).map fun xs => xs[i]?.map fun x => U.tup [.int (c + (i : Nat)), x]) | _ => none) = some s := h
    split at h
    · rename_i ys q
      cases h
      cases m.obj _ _ _ h1 q with
      | @lst _ vs h2 l =>
        refine ⟨a, vs, rfl, .inl ⟨.inl (.inl h2), jr_en (get := fun h' => match h'[p]? with | some (.lst xs) => some xs | _ => none) fun w' e m' xs q' => ?_⟩⟩
        split at q'
        · rename_i zs q3
          cases q'
          cases m'.obj _ _ _ (e.get h1) q3 with
          | @lst _ vs' h3 l' => exact ⟨vs', .inl (.inl h3), l'⟩
        · cases q'
    · cases h
  | @tup a xs vs h1 l =>
    cases h
    exact ⟨a, vs, rfl, .inr ⟨h1.1, jr_enF fun w' e m' => ⟨vs, e.sqT h1.1, l.up m e⟩⟩⟩
  | @fl a xs vs h1 h2 l =>
    cases h
    exact ⟨a, vs, rfl, .inl ⟨.inl (.inl h1), jr_enF fun w' e m' => ⟨vs, .inl (.inl (e.keep _ _ h1 (.inl fun q => h2 (m.z _ q)))), l.up m e⟩⟩⟩
  | @scr a xs h1 =>
    cases h
    have hq : ∀ w' : Wd, Ext w w' → SqL G.K w'.H a (xs.map V.int) := fun w' e => by
      rcases h1 with ⟨o, h1⟩ | h1
      · exact .inl (.inr ⟨o, e.keep _ _ h1 (.inr trivial)⟩)
      · exact h1 _
    exact ⟨a, _, rfl, .inl ⟨hq w (Ext.refl _), jr_enF fun w' e m' => ⟨_, hq w' e, RL.ints⟩⟩⟩
  | non => cases h
  | bl _ => cases h
  | int _ => cases h
  | str _ => cases h
  | ty _ => cases h
  | cls _ => cases h
  | tx _ _ _ => cases h
  | ob _ _ _ _ => cases h
theorem i_enum {elts : List Expr} {kk : Nat} (hK : X.K = G.K) (hg : Gl X "enumerate") (hm : X.mg "enumerate" = none) (ha : PA X (e :: es) (tA G fa W))
    (hs : starEach (e :: es) X.env = (false, eval e X.env) :: starEach es X.env := by rfl) (hpl : (backTo pos (starEach es X.env)).any (·.1) = false := by rfl) :
    PI X (.Tuple elts kk tpos) (.Call (.Name "enumerate" p) (e :: es) [] pos) (tI G (ien fa) W) :=
  PI.imp (pi_enumA hg hm ha hs hpl) fun σ _ Rr ⟨us, w, e, m, sl, h⟩ => by
    subst e
    refine ⟨us, w, rfl, m, sl, (Pt.bind (Rel := RL G) h).imp ?_⟩
    rintro vs H1 ⟨w1, xs, rfl, e1, m1, r1, h1⟩
    rw [hK]
    split at h1
    · cases r1 with
      | cons r t =>
        cases t
        split at h1
        · rename_i s q
          obtain ⟨a, ws, rfl, hh⟩ := enSrc_of m1 r q
          refine ⟨a, ws, 0, .inl ⟨rfl, rfl⟩, ?_⟩
          rcases hh with ⟨hq, hj⟩ | ⟨hq, hj⟩
          · exact .inl ⟨hq, h1 w1 _ rfl (Ext.refl _) m1 hj⟩
          · exact .inr ⟨hq, h1 w1 _ rfl (Ext.refl _) m1 hj⟩
        · exact h1.elim
    · rename_i u c
      cases r1 with
      | cons r t =>
        cases t with
        | cons r2 t2 =>
          cases t2
          cases r2
          split at h1
          · rename_i hc
            have hc : c.natAbs ≤ 1000000 := Nat.le_of_ble_eq_true hc
            split at h1
            · rename_i s q
              obtain ⟨a, ws, rfl, hh⟩ := enSrc_of m1 r q
              have e63 : (2 : Int) ^ 63 = 9223372036854775808 := by decide
              refine ⟨a, ws, c, .inr ⟨rfl, by omega, by omega⟩, ?_⟩
              rcases hh with ⟨hq, hj⟩ | ⟨hq, hj⟩
              · exact .inl ⟨hq, h1 w1 _ rfl (Ext.refl _) m1 hj⟩
              · exact .inr ⟨hq, h1 w1 _ rfl (Ext.refl _) m1 hj⟩
            · exact h1.elim
          · exact h1.elim
    · exact h1.elim
/-- zip(x, y): two tuples, or two lists that nobody changes -/
def izip (fa : EvA) : EvI := fun us h => (fa us h).bind fun xs h1 => match xs with
  | [.tup xs, .tup ys] => .ok (.fix (zipU xs ys)) h1
  | [.fl xs, .fl ys] => .ok (.fix (zipU xs ys)) h1
  | _ => .no
theorem i_zip {e2 : Expr} {elts : List Expr} {kk : Nat} (hK : X.K = G.K) (hg : Gl X "zip") (hm : X.mg "zip" = none) (ha : PA X [e, e2] (tA G fa W))
    (hs : starEach [e, e2] X.env = (false, eval e X.env) :: starEach [e2] X.env := by rfl) (hpl : (backTo pos (starEach [e2] X.env)).any (·.1) = false := by rfl) :
    PI X (.Tuple elts kk tpos) (.Call (.Name "zip" p) [e, e2] [] pos) (tI G (izip fa) W) :=
  PI.imp (RZ.pi_zipA hg hm ha hs hpl) fun σ _ Rr ⟨us, w, e, m, sl, h⟩ => by
    subst e
    refine ⟨us, w, rfl, m, sl, (Pt.bind (Rel := RL G) h).imp ?_⟩
    rintro vs H1 ⟨w1, xs, rfl, e1, m1, r1, h1⟩
    rw [hK]
    split at h1
    · rename_i xs ys
      cases r1 with
      | cons r t =>
        cases t with
        | cons r2 t2 =>
          cases t2
          cases r with
          | @tup a _ vs g1 l1 =>
            cases r2 with
            | @tup b _ ws g2 l2 =>
              refine ⟨a, b, vs, ws, rfl, .inr ⟨g1.1, g2.1, h1 w1 _ rfl (Ext.refl _) m1 fun w' e m' i => ?_⟩⟩
              show (match some (zipU xs ys)[i]? with | some (some u) => _ | some none => _ | none => True)
              rw [zipU_get]
              have := zip_step m' (S1 := fun H xs => SqT G.K H a xs) (S2 := fun H xs => SqT G.K H b xs) (e.sqT g1.1) (e.sqT g2.1) (l1.up m1 e) (l2.up m1 e) i
              split at this <;> (rename_i q; rw [q]; exact this)
    · rename_i xs ys
      cases r1 with
      | cons r t =>
        cases t with
        | cons r2 t2 =>
          cases t2
          cases r with
          | @fl a _ vs g1 n1 l1 =>
            cases r2 with
            | @fl b _ ws g2 n2 l2 =>
              refine ⟨a, b, vs, ws, rfl, .inl ⟨.inl (.inl g1), .inl (.inl g2), h1 w1 _ rfl (Ext.refl _) m1 fun w' e m' i => ?_⟩⟩
              show (match some (zipU xs ys)[i]? with | some (some u) => _ | some none => _ | none => True)
              rw [zipU_get]
              have := zip_step m' (S1 := fun H xs => SqL G.K H a xs) (S2 := fun H xs => SqL G.K H b xs) (.inl (.inl (e.keep _ _ g1 (.inl fun q => n1 (m1.z _ q))))) (.inl (.inl (e.keep _ _ g2 (.inl fun q => n2 (m1.z _ q))))) (l1.up m1 e) (l2.up m1 e) i
              split at this <;> (rename_i q; rw [q]; exact this)
    · exact h1.elim
end
/-! ### for -/
def forL (tg : Tgt) (body : Sv) : List U → Lo → List UO → Rt
  | [], us, h => .nx us h
  | x :: r, us, h => match tg x us with
    | none => .no
    | some us1 => match body us1 h with
      | .nx us2 h2 => forL tg body r us2 h2
      | .ct us2 h2 => forL tg body r us2 h2
      | .bk us2 h2 => .nx us2 h2
      | q => q
def forD (it : Nat → List UO → Option (Option U)) (tg : Tgt) (body : Sv) : Nat → Nat → Lo → List UO → Rt
  | 0, _, _, _ => .no
  | n + 1, i, us, h => match it i h with
    | none => .no
    | some none => .nx us h
    | some (some x) => match tg x us with
      | none => .no
      | some us1 => match body us1 h with
        | .nx us2 h2 => forD it tg body n (i + 1) us2 h2
        | .ct us2 h2 => forD it tg body n (i + 1) us2 h2
        | .bk us2 h2 => .nx us2 h2
        | q => q
def gFor (fi : EvI) (tg : Tgt) (body : Sv) : Sv := fun us h => (fi us h).then us fun s h1 => match s with
  | .fix xs => forL tg body xs us h1
  | .dyn it => forD it tg body 100000 0 us h1
section
variable {X : Cx} {G : Cfg} {W : WX} {D : Ends} {tg : Tgt} {slots : List Nat} {body : Sv}
/-- one turn: the target, then the body -/
theorem turn_ok {w : Wd} {us us1 : Lo} {σ : L2.St} {u : U} {x : V} {N : L2.St → Hp → Prop} (m : Sm G w) (sl : SL G w us σ) (r : R G w u x) (q : tg u us = some us1)
    (h : PtS G W w (body us1 w.h) { D with nx := N, ct := N, bk := D.nx }) : tG G tg slots x σ w.H fun σ2 H2 => tS G body W { D with nx := N, ct := N, bk := D.nx } σ2 H2 := by
  refine ⟨u, us, w, rfl, m, sl, r, ?_⟩
  rw [q]
  exact fun σ' sl' _ => ⟨us1, w, rfl, m, sl', h⟩
theorem for_fix {w0 : Wd} {xs : List U} {J : It} {us : Lo} {σ : L2.St} (m0 : Sm G w0) (sl0 : SL G w0 us σ) (hJ : JR G w0 (.fix xs) J) (h : PtS G W w0 (forL tg body xs us w0.h) D) :
    ∃ Wd : Nat → Nat → L2.St → Hp → Prop, (∃ m, Wd 0 m σ w0.H) ∧ ∀ i m σ H, Wd i m σ H →
      (J.stop i H ∧ D.nx σ H) ∨ (J.go i H ∧ ∃ N : L2.St → Hp → Prop, (∀ σ' H', N σ' H' → ∃ m', m' < m ∧ Wd (i + 1) m' σ' H') ∧ ∀ x H', J.yld i H x H' → tG G tg slots x σ H' fun σ2 H2 => tS G body W { D with nx := N, ct := N, bk := D.nx } σ2 H2) := by
  refine ⟨fun i m σ H => ∃ us w, w.H = H ∧ Ext w0 w ∧ Sm G w ∧ SL G w us σ ∧ m + i = xs.length ∧ PtS G W w (forL tg body (xs.drop i) us w.h) D, ⟨xs.length, us, w0, rfl, Ext.refl _, m0, sl0, rfl, h⟩, ?_⟩
  rintro i n σ _ ⟨us, w, rfl, e, m, sl, hl, h⟩
  have hj := hJ w e m i
  have hj : (match some xs[i]? with | some (some u) => _ | some none => _ | none => True) := hj
  cases q : xs[i]? with
  | none =>
    rw [q] at hj
    have hd : xs.drop i = [] := List.drop_eq_nil_of_le (List.getElem?_eq_none_iff.mp q)
    rw [hd] at h
    exact .inl ⟨hj, h w σ rfl (Ext.refl _) m sl⟩
  | some u =>
    rw [q] at hj
    obtain ⟨go, yld⟩ := hj
    obtain ⟨hi, ei⟩ := List.getElem?_eq_some_iff.mp q
    have hd : xs.drop i = u :: xs.drop (i + 1) := by rw [List.drop_eq_getElem_cons hi, ei]
    rw [hd] at h
    refine .inr ⟨go, fun σ' H' => ∃ us w, w.H = H' ∧ Ext w0 w ∧ Sm G w ∧ SL G w us σ' ∧ (n - 1) + (i + 1) = xs.length ∧ PtS G W w (forL tg body (xs.drop (i + 1)) us w.h) D, fun σ' H' hN => ⟨n - 1, by omega, hN⟩, fun x H' hy => ?_⟩
    obtain ⟨w2, rfl, eh, e2, m2, r2⟩ := yld x H' hy
    unfold forL at h
    cases qt : tg u us with
    | none => rw [qt] at h; exact h.elim
    | some us1 =>
      rw [qt] at h
      dsimp only at h
      refine turn_ok m2 (sl.up m e2) r2 qt ?_
      rw [eh]
      have hn : n - 1 + (i + 1) = xs.length := by omega
      cases qb : body us1 w.h with
      | nx us2 h2 =>
        rw [qb] at h
        exact fun w' σ' a b c d => ⟨us2, w', rfl, (e.trans e2).trans b, c, d, hn, by rw [a]; exact PtS.weak (e2.trans b) h⟩
      | ct us2 h2 =>
        rw [qb] at h
        exact fun w' σ' a b c d => ⟨us2, w', rfl, (e.trans e2).trans b, c, d, hn, by rw [a]; exact PtS.weak (e2.trans b) h⟩
      | bk us2 h2 =>
        rw [qb] at h
        exact fun w' σ' a b c d => h w' σ' a (e2.trans b) c d
      | rt u2 h2 =>
        rw [qb] at h
        exact fun w' v a b c d => h w' v a (e2.trans b) c d
      | ex x2 us2 h2 =>
        rw [qb] at h
        exact fun w' σ' cls d2 a b c d => h w' σ' cls d2 a (e2.trans b) c d
      | no => rw [qb] at h; exact h
theorem for_dyn {w0 : Wd} {it : Nat → List UO → Option (Option U)} {J : It} {us : Lo} {σ : L2.St} {fuel : Nat} (m0 : Sm G w0) (sl0 : SL G w0 us σ) (hJ : JR G w0 (.dyn it) J) (h : PtS G W w0 (forD it tg body fuel 0 us w0.h) D) :
    ∃ Wd : Nat → Nat → L2.St → Hp → Prop, (∃ m, Wd 0 m σ w0.H) ∧ ∀ i m σ H, Wd i m σ H →
      (J.stop i H ∧ D.nx σ H) ∨ (J.go i H ∧ ∃ N : L2.St → Hp → Prop, (∀ σ' H', N σ' H' → ∃ m', m' < m ∧ Wd (i + 1) m' σ' H') ∧ ∀ x H', J.yld i H x H' → tG G tg slots x σ H' fun σ2 H2 => tS G body W { D with nx := N, ct := N, bk := D.nx } σ2 H2) := by
  refine ⟨fun i m σ H => ∃ us w, w.H = H ∧ Ext w0 w ∧ Sm G w ∧ SL G w us σ ∧ PtS G W w (forD it tg body m i us w.h) D, ⟨fuel, us, w0, rfl, Ext.refl _, m0, sl0, h⟩, ?_⟩
  rintro i n σ _ ⟨us, w, rfl, e, m, sl, h⟩
  have hj := hJ w e m i
  have hj : (match it i w.h with | some (some u) => _ | some none => _ | none => True) := hj
  cases n with
  | zero => exact h.elim
  | succ n =>
    unfold forD at h
    cases q : it i w.h with
    | none => rw [q] at h; exact h.elim
    | some o =>
      rw [q] at h hj
      cases o with
      | none => exact .inl ⟨hj, h w σ rfl (Ext.refl _) m sl⟩
      | some u =>
        obtain ⟨go, yld⟩ := hj
        dsimp only at h
        refine .inr ⟨go, fun σ' H' => ∃ us w, w.H = H' ∧ Ext w0 w ∧ Sm G w ∧ SL G w us σ' ∧ PtS G W w (forD it tg body n (i + 1) us w.h) D, fun σ' H' hN => ⟨n, Nat.lt_succ_self _, hN⟩, fun x H' hy => ?_⟩
        obtain ⟨w2, rfl, eh, e2, m2, r2⟩ := yld x H' hy
        cases qt : tg u us with
        | none => rw [qt] at h; exact h.elim
        | some us1 =>
          rw [qt] at h
          dsimp only at h
          refine turn_ok m2 (sl.up m e2) r2 qt ?_
          rw [eh]
          cases qb : body us1 w.h with
          | nx us2 h2 =>
            rw [qb] at h
            exact fun w' σ' a b c d => ⟨us2, w', rfl, (e.trans e2).trans b, c, d, by rw [a]; exact PtS.weak (e2.trans b) h⟩
          | ct us2 h2 =>
            rw [qb] at h
            exact fun w' σ' a b c d => ⟨us2, w', rfl, (e.trans e2).trans b, c, d, by rw [a]; exact PtS.weak (e2.trans b) h⟩
          | bk us2 h2 =>
            rw [qb] at h
            exact fun w' σ' a b c d => h w' σ' a (e2.trans b) c d
          | rt u2 h2 =>
            rw [qb] at h
            exact fun w' v a b c d => h w' v a (e2.trans b) c d
          | ex x2 us2 h2 =>
            rw [qb] at h
            exact fun w' σ' cls d2 a b c d => h w' σ' cls d2 a (e2.trans b) c d
          | no => rw [qb] at h; exact h
theorem s_for {t iter : Expr} {bd : List Stmt} {fi : EvI} {pos : Pos} (hp : PassesOwn (model X.prog X.w) X.A X.env X.xe) (hc : X.calm = true) (hi : PI X t iter (tI G fi W)) (hg : PG X t (tG G tg slots)) (hb : PSs X bd (tS G body W))
    (hs : ∀ x, foldedSetIterable iter X.env x = pure x := by intro _; rfl) : PS X (.For t iter bd [] pos) (tS G (gFor fi tg body) W) :=
  PS.imp (ps_for hp hc hi hg hb hs) fun D σ _ ⟨us, w, e, m, sl, h⟩ => by
    subst e
    refine ⟨us, w, rfl, m, sl, (PtS.then (Rel := JR G) m sl h).imp ?_⟩
    rintro J H1 ⟨w1, s, rfl, e1, m1, hJ, sl1, h1⟩
    cases s with
    | fix xs => exact for_fix m1 sl1 hJ h1
    | dyn it => exact for_dyn m1 sl1 hJ h1
/-- while -/
def whileE (c : EvB) (body : Sv) : Nat → Lo → List UO → Rt
  | 0, _, _ => .no
  | n + 1, us, h => (c us h).then us fun b h1 => match b with
    | false => .nx us h1
    | true => match body us h1 with
      | .nx us2 h2 => whileE c body n us2 h2
      | .ct us2 h2 => whileE c body n us2 h2
      | .bk us2 h2 => .nx us2 h2
      | q => q
def gWhile (c : EvB) (body : Sv) : Sv := fun us h => whileE c body 100000 us h
theorem s_while {c : Expr} {bd : List Stmt} {fc : EvB} {pos : Pos} (hp : PassesOwn (model X.prog X.w) X.A X.env X.xe) (hc : PT X c (tT G fc W)) (hb : PSs X bd (tS G body W)) : PS X (.While c bd [] pos) (tS G (gWhile fc body) W) :=
  PS.imp (ps_while hp hc hb) fun D σ _ ⟨us, w, e, m, sl, h⟩ => by
    subst e
    refine ⟨fun n σ H => ∃ us w, w.H = H ∧ Sm G w ∧ SL G w us σ ∧ PtS G W w (whileE fc body n us w.h) D, ⟨100000, us, w, rfl, m, sl, h⟩, ?_⟩
    rintro n σ _ ⟨us, w, rfl, m, sl, h⟩
    cases n with
    | zero => exact h.elim
    | succ n =>
      unfold whileE at h
      refine ⟨us, w, rfl, m, sl, (PtS.then (Rel := fun _ (a b : Bool) => a = b) m sl h).imp ?_⟩
      rintro b H1 ⟨w1, b', rfl, e1, m1, rfl, sl1, h1⟩
      cases b' with
      | false => exact h1 w1 σ rfl (Ext.refl _) m1 sl1
      | true =>
        rw [if_pos rfl]
        dsimp only at h1
        refine ⟨fun σ' H' => ∃ us w, w.H = H' ∧ Sm G w ∧ SL G w us σ' ∧ PtS G W w (whileE fc body n us w.h) D, fun σ' H' hN => ⟨n, Nat.lt_succ_self _, hN⟩, us, w1, rfl, m1, sl1, ?_⟩
        cases qb : body us w1.h with
        | nx us2 h2 =>
          rw [qb] at h1
          exact fun w' σ' a b c d => ⟨us2, w', rfl, c, d, by rw [a]; exact PtS.weak b h1⟩
        | ct us2 h2 =>
          rw [qb] at h1
          exact fun w' σ' a b c d => ⟨us2, w', rfl, c, d, by rw [a]; exact PtS.weak b h1⟩
        | bk us2 h2 => rw [qb] at h1; exact h1
        | rt u2 h2 => rw [qb] at h1; exact h1
        | ex x2 us2 h2 => rw [qb] at h1; exact h1
        | no => rw [qb] at h1; exact h1
end
end Fn
namespace Fn
open PySem L2
/-! ### list comprehensions -/
def W0 : WX := fun _ _ _ _ => False
def lcL (tg : Tgt) (tests : EvB) (elt : Ev) (us : Lo) : List U → List UO → Rs (List U)
  | [], h => .ok [] h
  | x :: r, h => match tg x us with
    | none => .no
    | some us1 => match tests us1 h with
      | .ok true h1 => (match elt us1 h1 with
        | .ok y h2 => (match lcL tg tests elt us r h2 with | .ok ys h3 => .ok (y :: ys) h3 | _ => .no)
        | _ => .no)
      | .ok false h1 => lcL tg tests elt us r h1
      | _ => .no
def lcD (it : Nat → List UO → Option (Option U)) (tg : Tgt) (tests : EvB) (elt : Ev) (us : Lo) : Nat → Nat → List UO → Rs (List U)
  | 0, _, _ => .no
  | n + 1, i, h => match it i h with
    | none => .no
    | some none => .ok [] h
    | some (some x) => match tg x us with
      | none => .no
      | some us1 => match tests us1 h with
        | .ok true h1 => (match elt us1 h1 with
          | .ok y h2 => (match lcD it tg tests elt us n (i + 1) h2 with | .ok ys h3 => .ok (y :: ys) h3 | _ => .no)
          | _ => .no)
        | .ok false h1 => lcD it tg tests elt us n (i + 1) h1
        | _ => .no
def lcS (tg : Tgt) (tests : EvB) (elt : Ev) (us : Lo) (s : Src) (h : List UO) : Rs (List U) := match s with
  | .fix xs => lcL tg tests elt us xs h
  | .dyn it => lcD it tg tests elt us 100000 0 h
def eLc (fi : EvI) (tg : Tgt) (tests : EvB) (elt : Ev) (vs : List Nat) : EvL := fun us h => (fi us h).bind fun s h1 =>
  match lcS tg tests elt (wipeU us vs) s h1 with
  | .ok ys h2 => (match Nat.blt ys.length 16777216 with | true => .ok ys h2 | false => .no)
  | _ => .no
def bYes : EvB := fun _ h => .ok true h
section
variable {G : Cfg} {w : Wd} {D : Addr}
/-- the new list, that no value of ours leans on, is changed -/
theorem putZ {xs ys : List V} (m : Sm G w) (hD : w.H D = some (.lst xs)) (hz : w.Z D) (hr : D ∉ w.r) :
    Mon G w { w with H := upd w.H D (.lst ys) } ∧ Sm G { w with H := upd w.H D (.lst ys) } ∧ ∀ w0 : Wd, Ext w0 w → w0.H D = none → Ext w0 { w with H := upd w.H D (.lst ys) } := by
  have ne : ∀ {a : Addr} {o : HO}, w.H a = some o → (∀ vs, o ≠ .lst vs) → a ≠ D := fun {a o} h hn z => by
    rw [z, hD] at h
    exact hn _ (Option.some.inj h).symm
  have mon : Mon G w { w with H := upd w.H D (.lst ys) } := by
    refine ⟨fun a vs h => ?_, fun a vs h n => ⟨?_, n⟩, fun a o u h => ?_, fun a C dx fs h n => ⟨?_, n⟩, fun i a h => h⟩
    · refine ⟨?_, h.2.imp id fun q => by show upd w.H D _ a = _; rw [upd_ne (ne q (fun _ z => nomatch z))]; exact q⟩
      rcases h.1 with (h | ⟨o, h⟩) | h
      · exact .inl (.inl (by show upd w.H D _ a = _; rw [upd_ne (ne h (fun _ z => nomatch z))]; exact h))
      · exact .inl (.inr ⟨o, by show upd w.H D _ a = _; rw [upd_ne (ne h (fun _ z => nomatch z))]; exact h⟩)
      · exact .inr h
    · show upd w.H D _ a = _
      rw [upd_ne (fun z : a = D => n (by rw [z]; exact hz))]; exact h
    · show upd w.H D _ a = _
      rw [upd_ne (ne h (fun _ z => nomatch z))]; exact h
    · show upd w.H D _ a = _
      rw [upd_ne (fun z : a = D => n (by rw [z]; exact hz))]; exact h
  refine ⟨mon, ⟨m.len, m.nd, m.z, fun a h => ?_, fun i a o h1 h2 => ?_⟩, fun w0 e h0 => ⟨e.nw, e.zi, e.zs, fun a o h hi => ?_, fun a h => ?_⟩⟩
  · show upd w.H D _ a ≠ none
    by_cases z : a = D
    · subst z; rw [upd_same]; simp
    · rw [upd_ne z]; exact m.dom a h
  · have ha : a ≠ D := fun z => hr (z ▸ List.mem_of_getElem? h1)
    have hk : ∀ {x : HO}, w.H a = some x → upd w.H D (.lst ys) a = some x := fun h => by rw [upd_ne ha]; exact h
    cases m.obj i a o h1 h2 with
    | lst h l => exact .lst (hk h) (l.mon mon)
    | dk h l => exact .dk (hk h) (l.mon mon)
    | dt h l => exact .dt (hk h) (l.mon mon)
    | ins h hl l => exact .ins (hk h) hl (l.mon mon)
  · show upd w.H D _ a = _
    rw [upd_ne (ne_of_none h h0)]; exact e.keep a o h hi
  · have h : upd w.H D (.lst ys) a = none := h
    by_cases z : a = D
    · subst z; rw [upd_same] at h; cases h
    · rw [upd_ne z] at h; exact e.dom a h
theorem wipe_get : ∀ (σ : L2.St) (vs : List Nat) (j : Nat), j ∉ vs → (L2.wipe σ vs)[j]? = σ[j]?
  | _, [], _, _ => rfl
  | σ, v :: vs, j, h => by
    rw [List.mem_cons, not_or] at h
    show ((L2.wipe σ vs).set v none)[j]? = _
    rw [List.getElem?_set_ne (fun z => h.1 z.symm)]
    exact wipe_get σ vs j h.2
theorem wipe_in : ∀ (σ : L2.St) (vs : List Nat) (j : Nat), j ∈ vs → j < σ.length → (L2.wipe σ vs)[j]? = some none
  | _, [], _, h, _ => nomatch h
  | σ, v :: vs, j, h, hl => by
    show ((L2.wipe σ vs).set v none)[j]? = _
    by_cases hj : v = j
    · subst hj
      exact List.getElem?_set_self (by rw [wipe_length]; exact hl)
    · rw [List.getElem?_set_ne hj]
      exact wipe_in σ vs j ((List.mem_cons.mp h).resolve_left fun z => hj z.symm) hl
theorem wipe_eq {σ σ' : L2.St} {vs sl : List Nat} (hl : σ'.length = (L2.wipe σ vs).length) (ag : ∀ j, j ∉ sl → σ'[j]? = (L2.wipe σ vs)[j]?) (hs : ∀ j ∈ sl, j ∈ vs) : L2.wipe σ' vs = L2.wipe σ vs := by
  have hl' : σ'.length = σ.length := by rw [hl, wipe_length]
  refine List.ext_getElem? fun j => ?_
  by_cases hj : j ∈ vs
  · by_cases hjl : j < σ.length
    · rw [wipe_in σ vs j hj hjl, wipe_in σ' vs j hj (by omega)]
    · rw [List.getElem?_eq_none (by rw [wipe_length]; omega), List.getElem?_eq_none (by rw [wipe_length]; omega)]
  · rw [wipe_get σ' vs j hj, ag j fun z => hj (hs j z)]
end
section
variable {G : Cfg} {W : WX} {tg : Tgt} {sl vs : List Nat} {tests : EvB} {elt : Ev} {us : Lo} {σ : L2.St} {Q : VK}
theorem lc_gen {w0 w1 : Wd} {src : Src} {J : It} {D : Addr} {F : Nat → Nat → List UO → Rs (List U)} {M : Nat} {total : List U} {hEnd : List UO} (m0 : Sm G w0) (e01 : Ext w0 w1) (m1 : Sm G w1) (sl1 : SL G w1 us σ) (hJ : JR G w1 src J) (hD : w1.H D = none)
    (hF : ∀ m i h ys h', F m i h = .ok ys h' → (src.at i h = some none ∧ ys = [] ∧ h' = h) ∨ ∃ m', m' < m ∧ ∃ u us1, src.at i h = some (some u) ∧ tg u (wipeU us vs) = some us1 ∧
      ((∃ h1, tests us1 h = .ok false h1 ∧ F m' (i + 1) h1 = .ok ys h') ∨ ∃ h1 y h2 ys', tests us1 h = .ok true h1 ∧ elt us1 h1 = .ok y h2 ∧ F m' (i + 1) h2 = .ok ys' h' ∧ ys = y :: ys'))
    (h0 : F M 0 w1.h = .ok total hEnd) (hlen : total.length < 16777216) (hsl : ∀ j ∈ sl, j ∈ vs) (h : PtN G W σ w0 (.ok total hEnd) Q) :
    ∃ Wc : Nat → Nat → Hp → Prop, (∃ m, Wc 0 m (upd w1.H D (.lst []))) ∧ ∀ i m H, Wc i m H →
      (J.stop i H ∧ Q (.ref D) H) ∨ (J.go i H ∧ ∃ Nx : Hp → Prop, (∀ H', Nx H' → ∃ m', m' < m ∧ Wc (i + 1) m' H') ∧ ∀ x H', J.yld i H x H' → tG G tg sl x (L2.wipe σ vs) H' fun σ2 H2 => L2.wipe σ2 vs = L2.wipe σ vs ∧ tT G tests W0 σ2 H2 fun b H3 =>
        if b = true then tE G elt W0 σ2 H3 fun y H4 => ∃ acc, H4 D = some (.lst acc) ∧ acc.length < sizeLine ∧ Nx (upd H4 D (.lst (acc ++ [y]))) else Nx H3) := by
  -- the world of a turn
  let Tw (w : Wd) (acc : List U) (accV : List V) : Prop := Ext w1 w ∧ Sm G w ∧ w.H D = some (.lst accV) ∧ w.Z D ∧ D ∉ w.r ∧ RL G w acc accV
  have step : ∀ {w w2 : Wd} {acc : List U} {accV : List V}, Tw w acc accV → Ext w w2 → Sm G w2 → Tw w2 acc accV := by
    rintro w w2 acc accV ⟨e, m, hd, hz, hr, l⟩ e2 m2
    refine ⟨e.trans e2, m2, e2.keep _ _ hd (.inl hr), e2.zs _ hz, fun hm => ?_, l.up m e2⟩
    obtain ⟨nw, q1, q2⟩ := e2.nw
    rw [q1] at hm
    rcases List.mem_append.mp hm with q | q
    · exact hr q
    · rw [q2 _ q] at hd; cases hd
  refine ⟨fun i m H => ∃ w acc accV ys, w.H = H ∧ Tw w acc accV ∧ F m i w.h = .ok ys hEnd ∧ acc ++ ys = total, ⟨M, w1.newZ D (.lst []), [], [], total, rfl, ⟨Ext.newZ hD, m1.newZ hD, upd_same, .inr rfl, m1.free_r hD, .nil⟩, h0, rfl⟩, ?_⟩
  rintro i m _ ⟨w, acc, accV, ys, rfl, tw, hf, et⟩
  obtain ⟨e, mw, hd, hz, hr, l⟩ := id tw
  have hj := hJ w e mw i
  rcases hF m i w.h ys hEnd hf with ⟨ha, rfl, eh⟩ | ⟨m', hm, u, us1, ha, ht, hc⟩
  · rw [ha] at hj
    refine .inl ⟨hj, ?_⟩
    rw [List.append_nil] at et
    subst et
    exact h w D accV eh.symm (e01.trans e) mw l hd (e01.dom _ hD) hz hr
  · rw [ha] at hj
    obtain ⟨go, yld⟩ := hj
    refine .inr ⟨go, fun H' => ∃ w acc accV ys, w.H = H' ∧ Tw w acc accV ∧ F m' (i + 1) w.h = .ok ys hEnd ∧ acc ++ ys = total, fun H' hN => ⟨m', hm, hN⟩, fun x H' hy => ?_⟩
    obtain ⟨w2, rfl, eh, e2, m2, r2⟩ := yld x H' hy
    have tw2 := step tw e2 m2
    refine ⟨u, wipeU us vs, w2, rfl, m2, ((sl1.up m1 (e.trans e2)).wipe vs), r2, ?_⟩
    rw [ht]
    intro σ2 sl2 ag
    refine ⟨?_, us1, w2, rfl, m2, sl2, ?_⟩
    · exact wipe_eq ag.1 ag.2 hsl
    · rw [eh]
      rcases hc with ⟨h1, q1, q2⟩ | ⟨h1, y, h2, ys', q1, q2, q3, q4⟩
      · rw [q1]
        rintro w3 b a e3 m3 rfl
        rw [if_neg (by decide)]
        subst a
        exact ⟨w3, acc, accV, ys, rfl, step tw2 e3 m3, q2, et⟩
      · rw [q1]
        rintro w3 b a e3 m3 rfl
        rw [if_pos rfl]
        subst a
        have tw3 := step tw2 e3 m3
        refine ⟨us1, w3, rfl, m3, sl2.up m2 e3, ?_⟩
        rw [q2]
        rintro w4 v a4 e4 m4 r4
        obtain ⟨f1, f2, f3, f4, f5, f6⟩ := step tw3 e4 m4
        subst a4 q4
        refine ⟨accV, f3, ?_, ?_⟩
        · rw [← f6.length, sizeLine_eq]
          rw [← et, List.length_append, List.length_cons] at hlen
          omega
        · obtain ⟨mon, sm, ex⟩ := putZ (ys := accV ++ [v]) m4 f3 f4 f5
          exact ⟨_, acc ++ [y], accV ++ [v], ys', rfl, ⟨ex w1 f1 hD, sm, upd_same, f4, f5, (f6.append (.one r4)).mon mon⟩, q3, by rw [List.append_assoc]; exact et⟩
end
section
variable {G : Cfg} {W : WX} {tg : Tgt} {sl vs : List Nat} {tests : EvB} {elt : Ev} {us : Lo}
theorem lcL_F {xs : List U} : ∀ m i h ys h', (if m + i = xs.length then lcL tg tests elt (wipeU us vs) (xs.drop i) h else .no) = Rs.ok ys h' →
    ((Src.fix xs).at i h = some none ∧ ys = [] ∧ h' = h) ∨ ∃ m', m' < m ∧ ∃ u us1, (Src.fix xs).at i h = some (some u) ∧ tg u (wipeU us vs) = some us1 ∧
      ((∃ h1, tests us1 h = .ok false h1 ∧ (if m' + (i + 1) = xs.length then lcL tg tests elt (wipeU us vs) (xs.drop (i + 1)) h1 else .no) = Rs.ok ys h') ∨
        ∃ h1 y h2 ys', tests us1 h = .ok true h1 ∧ elt us1 h1 = .ok y h2 ∧ (if m' + (i + 1) = xs.length then lcL tg tests elt (wipeU us vs) (xs.drop (i + 1)) h2 else .no) = Rs.ok ys' h' ∧ ys = y :: ys') := by
  intro m i h ys h' e
  split at e
  · rename_i hm
    show (some xs[i]? = some none ∧ _) ∨ _
    cases q : xs[i]? with
    | none =>
      rw [List.drop_eq_nil_of_le (List.getElem?_eq_none_iff.mp q)] at e
      unfold lcL at e
      cases e
      exact .inl ⟨rfl, rfl, rfl⟩
    | some u =>
      obtain ⟨hi, ei⟩ := List.getElem?_eq_some_iff.mp q
      have hm' : m - 1 + (i + 1) = xs.length := by omega
      rw [List.drop_eq_getElem_cons hi, ei] at e
      unfold lcL at e
      split at e
      · cases e
      · rename_i us1 qt
        refine .inr ⟨m - 1, by omega, u, us1, by show some xs[i]? = _; rw [q], qt, ?_⟩
        simp only [if_pos hm']
        split at e
        · rename_i h1 q1
          split at e
          · rename_i y h2 q2
            split at e
            · rename_i ys' h3 q3
              cases e
              exact .inr ⟨h1, y, h2, ys', q1, q2, q3, rfl⟩
            · cases e
          · cases e
        · rename_i h1 q1
          exact .inl ⟨h1, q1, e⟩
        · cases e
  · cases e
theorem lcD_F {it : Nat → List UO → Option (Option U)} : ∀ m i h ys h', lcD it tg tests elt (wipeU us vs) m i h = Rs.ok ys h' →
    ((Src.dyn it).at i h = some none ∧ ys = [] ∧ h' = h) ∨ ∃ m', m' < m ∧ ∃ u us1, (Src.dyn it).at i h = some (some u) ∧ tg u (wipeU us vs) = some us1 ∧
      ((∃ h1, tests us1 h = .ok false h1 ∧ lcD it tg tests elt (wipeU us vs) m' (i + 1) h1 = Rs.ok ys h') ∨
        ∃ h1 y h2 ys', tests us1 h = .ok true h1 ∧ elt us1 h1 = .ok y h2 ∧ lcD it tg tests elt (wipeU us vs) m' (i + 1) h2 = Rs.ok ys' h' ∧ ys = y :: ys') := by
  intro m i h ys h' e
  cases m with
  | zero => cases e
  | succ n =>
    unfold lcD at e
    show (it i h = some none ∧ _) ∨ _
    split at e
    · cases e
    · rename_i q
      cases e
      exact .inl ⟨q, rfl, rfl⟩
    · rename_i u q
      split at e
      · cases e
      · rename_i us1 qt
        refine .inr ⟨n, Nat.lt_succ_self _, u, us1, q, qt, ?_⟩
        split at e
        · rename_i h1 q1
          split at e
          · rename_i y h2 q2
            split at e
            · rename_i ys' h3 q3
              cases e
              exact .inr ⟨h1, y, h2, ys', q1, q2, q3, rfl⟩
            · cases e
          · cases e
        · rename_i h1 q1
          exact .inl ⟨h1, q1, e⟩
        · cases e
theorem tLc_of {fi : EvI} {σ : L2.St} {H : Hp} {Q : VK} (hsl : ∀ j ∈ sl, j ∈ vs) (h : tN G (eLc fi tg tests elt vs) W σ H Q) : tLc (tI G fi W) (tG G tg sl) (tT G tests W0) (tE G elt W0) vs σ H Q := by
  obtain ⟨us, w, rfl, m, sl0, h⟩ := h
  refine ⟨us, w, rfl, m, sl0, (PtN.bind (Rel := JR G) h).imp ?_⟩
  rintro J H1 ⟨w1, src, rfl, e1, m1, hJ, h1⟩
  intro D hD
  split at h1
  · rename_i ys hEnd q
    split at h1
    · rename_i hl
      have hl : ys.length < 16777216 := Nat.le_of_ble_eq_true hl
      cases src with
      | fix xs =>
        refine lc_gen (F := fun m i h => if m + i = xs.length then lcL tg tests elt (wipeU us vs) (xs.drop i) h else .no) (M := xs.length) m e1 m1 (sl0.up m e1) hJ hD lcL_F ?_ hl hsl h1
        show (if xs.length + 0 = xs.length then _ else _) = _
        rw [if_pos (by omega)]
        exact q
      | dyn it => exact lc_gen (F := lcD it tg tests elt (wipeU us vs)) (M := 100000) m e1 m1 (sl0.up m e1) hJ hD lcD_F q hl hsl h1
    · exact h1.elim
  · exact h1.elim
end
section
variable {X : Cx} {G : Cfg} {W : WX} {elt tgt iter : Expr} {ifs : List Expr} {scope : Scope} {own : List (Str × Nat)} {pos : Pos} {fi : EvI} {tg : Tgt} {sl : List Nat} {tests : EvB} {fe : Ev}
theorem ts_nil : PTs X [] (tT G bYes W) := PTs.imp pts_nil fun _ _ _ ⟨us, w, e, m, sl, h⟩ => by
  subst e
  exact h w true rfl (Ext.refl w) m rfl
theorem ts_one {c : Expr} {fc : EvB} (h : PT X c (tT G fc W)) : PTs X [c] (tT G fc W) := pts_one h
theorem f_lc (hc : X.calm = true) (hN : X.N.Nodup) (hi : PI X tgt iter (tI G fi W)) (ok : BlkOk X.N X.env.scope scope own)
    (hg : ∀ (s : Shared) (H : Hp) (C : Addr) (cl : List (Str × Addr)) (fp : List Addr), PG (X.blk s H scope (compEnvC scope cl C X.env) fp) tgt (tG G tg sl)) (ht : ∀ (s : Shared) (H : Hp) (C : Addr) (cl : List (Str × Addr)) (fp : List Addr), PTs (X.blk s H scope (compEnvC scope cl C X.env) fp) ifs (tT G tests W0))
    (he : ∀ (s : Shared) (H : Hp) (C : Addr) (cl : List (Str × Addr)) (fp : List Addr), PE (X.blk s H scope (compEnvC scope cl C X.env) fp) elt (tE G fe W0)) (hsl : ∀ j ∈ sl, j ∈ own.map (·.2)) (hs : ∀ x, foldedSetIterable iter X.env x = pure x := by intro _; rfl) :
    PE X (.ListComp elt [⟨tgt, iter, ifs, 0⟩] scope pos) (tN G (eLc fi tg tests fe (own.map (·.2))) W) :=
  PE.imp (pe_lc hc hN hi ok hg ht he hs) fun _ _ _ h => tLc_of hsl h
theorem s_setLcF {i : Nat} {y : Str} {py spos : Pos} (hc : X.calm = true) (hN : X.N.Nodup) (hy : X.N[i]? = some y) (hyl : X.env.scope.names.lookup y = some .local)
    (hsw : swapsWith (.ListComp elt [⟨tgt, iter, ifs, 0⟩] scope pos) (some (.Name y py)) spos.line X.env = pure true) (hi : PI X tgt iter (tI G fi W)) (ok : BlkOk X.N X.env.scope scope own)
    (hg : ∀ (s : Shared) (H : Hp) (C : Addr) (cl : List (Str × Addr)) (fp : List Addr), PG (X.blk s H scope (compEnvC scope cl C X.env) fp) tgt (tG G tg sl)) (ht : ∀ (s : Shared) (H : Hp) (C : Addr) (cl : List (Str × Addr)) (fp : List Addr), PTs (X.blk s H scope (compEnvC scope cl C X.env) fp) ifs (tT G tests W0))
    (he : ∀ (s : Shared) (H : Hp) (C : Addr) (cl : List (Str × Addr)) (fp : List Addr), PE (X.blk s H scope (compEnvC scope cl C X.env) fp) elt (tE G fe W0)) (hsl : ∀ j ∈ sl, j ∈ own.map (·.2)) (hs : ∀ x, foldedSetIterable iter X.env x = pure x := by intro _; rfl) :
    PS X (.Assign [.Name y py] (.ListComp elt [⟨tgt, iter, ifs, 0⟩] scope pos) spos) (tS G (gSet i (eF (eLc fi tg tests fe (own.map (·.2))))) W) :=
  PS.imp (ps_setLc hc hN hy hyl hsw hi ok hg ht he hs) fun D σ H h => tLc_of hsl (tN_eF (set_of h))
theorem s_setLcT {i : Nat} {y : Str} {py spos : Pos} (hc : X.calm = true) (hN : X.N.Nodup) (hy : X.N[i]? = some y) (hyl : X.env.scope.names.lookup y = some .local)
    (hsw : swapsWith (.ListComp elt [⟨tgt, iter, ifs, 0⟩] scope pos) (some (.Name y py)) spos.line X.env = pure true) (hi : PI X tgt iter (tI G fi W)) (ok : BlkOk X.N X.env.scope scope own)
    (hg : ∀ (s : Shared) (H : Hp) (C : Addr) (cl : List (Str × Addr)) (fp : List Addr), PG (X.blk s H scope (compEnvC scope cl C X.env) fp) tgt (tG G tg sl)) (ht : ∀ (s : Shared) (H : Hp) (C : Addr) (cl : List (Str × Addr)) (fp : List Addr), PTs (X.blk s H scope (compEnvC scope cl C X.env) fp) ifs (tT G tests W0))
    (he : ∀ (s : Shared) (H : Hp) (C : Addr) (cl : List (Str × Addr)) (fp : List Addr), PE (X.blk s H scope (compEnvC scope cl C X.env) fp) elt (tE G fe W0)) (hsl : ∀ j ∈ sl, j ∈ own.map (·.2)) (hs : ∀ x, foldedSetIterable iter X.env x = pure x := by intro _; rfl) :
    PS X (.Assign [.Name y py] (.ListComp elt [⟨tgt, iter, ifs, 0⟩] scope pos) spos) (tS G (gSet i (eT (eLc fi tg tests fe (own.map (·.2))))) W) :=
  PS.imp (ps_setLc hc hN hy hyl hsw hi ok hg ht he hs) fun D σ H h => tLc_of hsl (tN_eT (set_of h))
end
end Fn
namespace Fn
open PySem L2 PySem.Spec PyProof.Rows
/-! ### what a call hands back -/
/-- as it stands, nobody's any more -/
def frz : Nat → List UO → U → Option U
  | 0, _, _ => none
  | n + 1, h, u => match u with
    | .ref i => (match h[i]? with
      | some (.lst xs) => (match mapO (frz n h) xs with | some ys => some (.fl ys) | none => none)
      | _ => none)
    | .tup xs => (match mapO (frz n h) xs with | some ys => some (.tup ys) | none => none)
    | .fl xs => (match mapO (frz n h) xs with | some ys => some (.fl ys) | none => none)
    | .ob c xs => (match mapO (frz n h) xs with | some ys => some (.ob c ys) | none => none)
    | .tx xs => (match mapO (frz n h) xs with | some ys => some (.tx ys) | none => none)
    | u => some u
section
variable {G : Cfg} {w w' : Wd}
theorem frz_all {n : Nat} (ih : ∀ (u u' : U) (v : V), R G w u v → frz n w.h u = some u' → R G w' u' v) : ∀ {us us' : List U} {vs : List V}, RL G w us vs → mapO (frz n w.h) us = some us' → RL G w' us' vs
  | _, _, _, .nil, e => by cases e; exact .nil
  | u :: us, us', v :: vs, .cons r t, e => by
    unfold mapO at e
    split at e
    · rename_i y q1
      split at e
      · rename_i ys q2
        cases e
        exact .cons (ih u y v r q1) (frz_all ih t q2)
      · cases e
    · cases e
/-- what was made since then, or is nobody's, may be forgotten -/
theorem frz_of (hH : w'.H = w.H) (m : Sm G w) (hz : ∀ a, w'.Z a → w.Z a) (hr : ∀ a ∈ w.r, ¬ w'.Z a) : ∀ (n : Nat) (u u' : U) (v : V), R G w u v → frz n w.h u = some u' → R G w' u' v
  | 0, _, _, _, _, e => by cases e
  | n + 1, u, u', v, r, e => by
    have ih := frz_of hH m hz hr n
    unfold frz at e
    cases r with
    | non => cases e; exact .non
    | bl b => cases e; exact .bl b
    | int b => cases e; exact .int b
    | str b => cases e; exact .str b
    | ty b => cases e; exact .ty b
    | cls _ => cases e; exact .cls _
    | scr h => cases e; exact .scr (hH ▸ h)
    | tup h l =>
      dsimp only at e
      split at e
      · rename_i ys q
        cases e
        exact .tup (hH ▸ h) (frz_all ih l q)
      · cases e
    | tx h d l =>
      dsimp only at e
      split at e
      · rename_i ys q
        cases e
        exact .tx (hH ▸ h) d (frz_all ih l q)
      · cases e
    | fl h nz l =>
      dsimp only at e
      split at e
      · rename_i ys q
        cases e
        exact .fl (hH ▸ h) (fun z => nz (hz _ z)) (frz_all ih l q)
      · cases e
    | ob h nz hl l =>
      dsimp only at e
      split at e
      · rename_i ys q
        cases e
        exact .ob (hH ▸ h) (fun z => nz (hz _ z)) hl (frz_all ih l q)
      · cases e
    | @ref i a h =>
      dsimp only at e
      split at e
      · rename_i xs q
        split at e
        · rename_i ys q2
          cases e
          cases m.obj _ _ _ h q with
          | lst h2 l => exact .fl (hH ▸ h2) (hr _ (List.mem_of_getElem? h)) (frz_all ih l q2)
        · cases e
      · cases e
end
/-! ### a def whose arguments are nobody's: a plain function -/
abbrev Fg := List U → Rg
def PtG (G : Cfg) (w : Wd) (r : Rg) (Q : VK) (E : XK) : Prop :=
  match r with
  | .ok u => ∀ (w' : Wd) (v : V), w'.r = [] → w'.Z = w.Z → w'.h = [] → Ext w w' → Sm G w' → R G w' u v → Q v w'.H
  | .ex e => ∀ (w' : Wd) (cls : Value) (d : Option Addr), w'.r = [] → w'.Z = w.Z → w'.h = [] → Ext w w' → Sm G w' → RX G w' e cls d → E cls d w'.H
  | .no => False
def fnG (G : Cfg) (n : Nat) (f : Fg) : Sp := fun vs H Q E => vs.length = n ∧ ∃ us w, w.H = H ∧ w.r = [] ∧ w.h = [] ∧ Sm G w ∧ RL G w us vs ∧ PtG G w (f us) Q E
/-- a def that may change what it is handed -/
abbrev Fh := List U → List UO → Rs U
def fnH (G : Cfg) (n : Nat) (f : Fh) : Sp := fun vs H Q E => vs.length = n ∧ ∃ us w, w.H = H ∧ Sm G w ∧ RL G w us vs ∧ Pt G (R G) (fun cls d _ H => E cls d H) [] w (f us w.h) Q
def startU (n : Nat) (us : List U) : Lo := us.map some ++ List.replicate (n - us.length) none
def fin (r : Rt) : Rg := match r with
  | .rt u h => (match frz 8 h u with | some u' => .ok u' | none => .no)
  | .nx _ _ => .ok .non
  | .ex e _ h => (match e.fs with
    | [] => .ex e
    | fs => (match mapO (frz 8 h) fs with | some (f :: r) => .ex ⟨e.c, f :: r⟩ | _ => .no))
  | _ => .no
def finH (r : Rt) : Rs U := match r with
  | .rt u h => .ok u h
  | .nx _ h => .ok .non h
  | .ex e _ h => .ex e h
  | _ => .no
def runG (n : Nat) (body : Sv) : Fg := fun us => fin (body (startU n us) [])
def runH (n : Nat) (body : Sv) : Fh := fun us h => finH (body (startU n us) h)
section
variable {G : Cfg}
theorem start_sl {w : Wd} {us : List U} {vs : List V} {N : List Str} (l : RL G w us vs) : SL G w (startU N.length us) (L2.start N vs) := by
  unfold startU L2.start
  rw [← l.length]
  refine ⟨by simp [l.length], fun i u q => ?_⟩
  by_cases hi : i < us.length
  · rw [List.getElem?_append_left (by simpa using hi), List.getElem?_map] at q
    cases q2 : us[i]? with
    | none => rw [q2] at q; cases q
    | some x =>
      rw [q2] at q
      cases q
      obtain ⟨v, hv, r⟩ := l.get q2
      exact ⟨v, by rw [List.getElem?_append_left (by rw [List.length_map, ← l.length]; exact hi), List.getElem?_map, hv]; rfl, r⟩
  · rw [List.getElem?_append_right (by simpa using hi)] at q
    have := List.mem_of_getElem? q
    cases (List.mem_replicate.mp this).2
/-- the own heap is forgotten -/
theorem forget {w w' : Wd} (hr : w.r = []) (m : Sm G w) (e : Ext w w') (m' : Sm G w') :
    let w2 : Wd := ⟨w.Z, [], [], w'.H⟩
    Ext w w2 ∧ Sm G w2 ∧ (∀ a, w2.Z a → w'.Z a) ∧ ∀ a ∈ w'.r, ¬ w2.Z a := by
  refine ⟨⟨⟨[], by simp [hr], by simp⟩, fun a h => .inl h, fun a h => h, fun a o h _ => e.keep a o h (.inl (by rw [hr]; simp)), e.dom⟩, ⟨rfl, .nil, (fun a h => nomatch h), (fun a h q => m.dom a h (e.dom a q)), (fun i a o h _ => by simp at h)⟩, fun a h => e.zs a h, fun a h z => ?_⟩
  obtain ⟨nw, q1, q2⟩ := e.nw
  rw [q1, hr, List.nil_append] at h
  exact m.dom a z (q2 a h)
theorem fin_of {W : WX} {w : Wd} {r : Rt} {Q : VK} {E : XK} (hr : w.r = []) (m : Sm G w) (hW : ∀ cls d σ H, E cls d H → W cls d σ H) (h : PtG G w (fin r) Q E) : PtS G W w r { nx := fun _ H' => Q .non H', rt := Q } := by
  cases r with
  | rt u hh =>
    unfold fin at h
    intro w' v a e m' rv
    subst a
    obtain ⟨f1, f2, f3, f4⟩ := forget hr m e m'
    dsimp only at h
    split at h
    · rename_i u' q
      exact h ⟨w.Z, [], [], w'.H⟩ v rfl rfl rfl f1 f2 (frz_of (w := w') (w' := ⟨w.Z, [], [], w'.H⟩) rfl m' f3 f4 8 u u' v rv q)
    · exact h.elim
  | nx us hh =>
    intro w' σ' a e m' sl
    obtain ⟨f1, f2, f3, f4⟩ := forget hr m e m'
    exact h ⟨w.Z, [], [], w'.H⟩ .non rfl rfl rfl f1 f2 .non
  | ex x us hh =>
    intro w' σ' cls d a e m' sl rx
    subst a
    obtain ⟨f1, f2, f3, f4⟩ := forget hr m e m'
    obtain ⟨c, fs⟩ := x
    unfold fin at h
    cases fs with
    | nil =>
      refine hW _ _ _ _ (h ⟨w.Z, [], [], w'.H⟩ cls d rfl rfl rfl f1 f2 rx)
    | cons f r =>
      dsimp only at h
      split at h
      · rename_i f' r' q
        obtain ⟨hc, dd, vs, ed, hd, nz, l⟩ := rx
        refine hW _ _ _ _ (h ⟨w.Z, [], [], w'.H⟩ cls d rfl rfl rfl f1 f2 ⟨hc, dd, vs, ed, hd, fun z => nz (f3 _ z), frz_all (w' := ⟨w.Z, [], [], w'.H⟩) (fun u u' v r q => frz_of (w := w') (w' := ⟨w.Z, [], [], w'.H⟩) rfl m' f3 f4 8 u u' v r q) l q⟩)
      · exact h.elim
  | bk us hh => exact False.elim h
  | ct us hh => exact False.elim h
  | no => exact False.elim h
theorem finH_of {W : WX} {w : Wd} {r : Rt} {Q : VK} {E : XK} (hW : ∀ cls d σ H, E cls d H → W cls d σ H) (h : Pt G (R G) (fun cls d _ H => E cls d H) [] w (finH r) Q) : PtS G W w r { nx := fun _ H' => Q .non H', rt := Q } := by
  cases r with
  | rt u hh => exact h
  | nx us hh => exact fun w' σ' a e m' sl => h w' .non a e m' .non
  | ex x us hh => exact fun w' σ' cls d a e m' sl rx => hW _ _ _ _ (h w' cls d a e m' rx)
  | bk us hh => exact False.elim h
  | ct us hh => exact False.elim h
  | no => exact False.elim h
variable {P : Program} {w : World} {K : PySem.W.Frag} {mg : Str → Option Value} {base : Heap}
/-- a def's promise, by its body's evaluator -/
theorem okG {x qual : Str} {st : Stmt} {f : Addr} {fd : FuncData} {N ps : List Str} {k : Nat} {body : Sv} (F : Fun K x qual st f fd) (S : FnScope N ps (defScope st))
    (hbody : ∀ (cdv : Value) (A : Around) (outer : List Env) (s : Shared) (H : Hp) (E : XK), Room k (A.deeper (envOfC qual (defScope st) s.heap.objs.size f cdv)) → ∀ W : WX, Takes (cxOf (L2.CX P w) P w K mg base N qual (defScope st) f cdv A outer s H E) W →
      PSs (cxOf (L2.CX P w) P w K mg base N qual (defScope st) f cdv A outer s H E) (defBody st) (tS G body W)) : FnOk P w K mg base (L2.CX P w) (k + 1) f fd ps (fnG G ps.length (runG N.length body)) :=
  F.okX S (fun _ _ _ _ h => h.1) fun cdv A outer s H vs Q E hr h => by
    have tk : Takes (cxOf (L2.CX P w) P w K mg base N qual (defScope st) f cdv A outer s H E) (fun cls d _ H => E cls d H) := takes_of rfl rfl rfl rfl
    refine ⟨_, hbody cdv A outer s H E hr _ tk, ?_⟩
    obtain ⟨hl, us, w, rfl, h1, h2, m, l, h⟩ := h
    refine ⟨startU N.length us, w, rfl, m, start_sl l, ?_⟩
    rw [h2]
    exact fin_of h1 m (fun _ _ _ _ h => h) h
theorem okH {x qual : Str} {st : Stmt} {f : Addr} {fd : FuncData} {N ps : List Str} {k : Nat} {body : Sv} (F : Fun K x qual st f fd) (S : FnScope N ps (defScope st))
    (hbody : ∀ (cdv : Value) (A : Around) (outer : List Env) (s : Shared) (H : Hp) (E : XK), Room k (A.deeper (envOfC qual (defScope st) s.heap.objs.size f cdv)) → ∀ W : WX, Takes (cxOf (L2.CX P w) P w K mg base N qual (defScope st) f cdv A outer s H E) W →
      PSs (cxOf (L2.CX P w) P w K mg base N qual (defScope st) f cdv A outer s H E) (defBody st) (tS G body W)) : FnOk P w K mg base (L2.CX P w) (k + 1) f fd ps (fnH G ps.length (runH N.length body)) :=
  F.okX S (fun _ _ _ _ h => h.1) fun cdv A outer s H vs Q E hr h => by
    have tk : Takes (cxOf (L2.CX P w) P w K mg base N qual (defScope st) f cdv A outer s H E) (fun cls d _ H => E cls d H) := takes_of rfl rfl rfl rfl
    refine ⟨_, hbody cdv A outer s H E hr _ tk, ?_⟩
    obtain ⟨hl, us, w, rfl, m, l, h⟩ := h
    exact ⟨startU N.length us, w, rfl, m, start_sl l, finH_of (fun _ _ _ _ h => h) h⟩
end
/-! ### calls -/
/-- nothing of the own heap within -/
def pureU : Nat → U → Bool
  | 0, _ => false
  | n + 1, u => match u with
    | .ref _ => false
    | .tup xs => xs.all (pureU n)
    | .fl xs => xs.all (pureU n)
    | .ob _ xs => xs.all (pureU n)
    | .tx xs => xs.all (pureU n)
    | _ => true
/-- no list within: numbers, texts, tuples of them -/
def plainU : Nat → U → Bool
  | 0, _ => false
  | n + 1, u => match u with
    | .ref _ => false
    | .fl _ => false
    | .ob _ _ => false
    | .tx _ => false
    | .tup xs => xs.all (plainU n)
    | _ => true
section
variable {G : Cfg} {w w' : Wd}
theorem pure_all {n : Nat} (ih : ∀ (u : U) (v : V), R G w u v → pureU n u = true → R G w' u v) : ∀ {us : List U} {vs : List V}, RL G w us vs → us.all (pureU n) = true → RL G w' us vs
  | _, _, .nil, _ => .nil
  | _, _, .cons r t, e => by
    rw [List.all_cons, Bool.and_eq_true] at e
    exact .cons (ih _ _ r e.1) (pure_all ih t e.2)
theorem pure_of (hH : w'.H = w.H) (hz : ∀ a, w'.Z a → w.Z a) : ∀ (n : Nat) (u : U) (v : V), R G w u v → pureU n u = true → R G w' u v
  | 0, _, _, _, e => by cases e
  | n + 1, u, v, r, e => by
    have ih := pure_of hH hz n
    unfold pureU at e
    cases r with
    | non => exact .non
    | bl b => exact .bl b
    | int b => exact .int b
    | str b => exact .str b
    | ty b => exact .ty b
    | cls _ => exact .cls _
    | scr h => exact .scr (hH ▸ h)
    | tup h l => exact .tup (hH ▸ h) (pure_all ih l e)
    | tx h d l => exact .tx (hH ▸ h) d (pure_all ih l e)
    | fl h nz l => exact .fl (hH ▸ h) (fun z => nz (hz _ z)) (pure_all ih l e)
    | ob h nz hl l => exact .ob (hH ▸ h) (fun z => nz (hz _ z)) hl (pure_all ih l e)
    | ref h => cases e
theorem plain_all {n : Nat} (ih : ∀ (u : U) (v : V), R G w u v → plainU n u = true → R G w' u v) : ∀ {us : List U} {vs : List V}, RL G w us vs → us.all (plainU n) = true → RL G w' us vs
  | _, _, .nil, _ => .nil
  | _, _, .cons r t, e => by
    rw [List.all_cons, Bool.and_eq_true] at e
    exact .cons (ih _ _ r e.1) (plain_all ih t e.2)
theorem plain_of (hH : w'.H = w.H) : ∀ (n : Nat) (u : U) (v : V), R G w u v → plainU n u = true → R G w' u v
  | 0, _, _, _, e => by cases e
  | n + 1, u, v, r, e => by
    have ih := plain_of hH n
    unfold plainU at e
    cases r with
    | non => exact .non
    | bl b => exact .bl b
    | int b => exact .int b
    | str b => exact .str b
    | ty b => exact .ty b
    | cls _ => exact .cls _
    | scr h => exact .scr (hH ▸ h)
    | tup h l => exact .tup (hH ▸ h) (plain_all ih l e)
    | tx h d l => cases e
    | fl h nz l => cases e
    | ob h nz hl l => cases e
    | ref h => cases e
/-- R where no own object stands: by any world of the same Z and heap -/
theorem R.bare (hr : w.r = []) (hH : w'.H = w.H) (hz : ∀ a, w'.Z a → w.Z a) {u : U} {v : V} (h : R G w u v) : R G w' u v :=
  R.les ⟨hz, fun i a q => by rw [hr] at q; simp at q, hH⟩ h
theorem RL.bare (hr : w.r = []) (hH : w'.H = w.H) (hz : ∀ a, w'.Z a → w.Z a) {u : List U} {v : List V} (h : RL G w u v) : RL G w' u v :=
  RL.les ⟨hz, fun i a q => by rw [hr] at q; simp at q, hH⟩ h
end
/-- f(..), the arguments nobody's -/
def eCallG (n : Nat) (f : Fg) (fa : EvA) : Ev := fun us h => (fa us h).bind fun as h1 => match as.length == n && as.all (pureU 10) with
  | true => (match f as with | .ok u => .ok u h1 | .ex e => .ex e h1 | .no => .no)
  | false => .no
/-- f(..), lists of ours are handed to be read alone; what comes back bears no list -/
def eCallR (n : Nat) (f : Fg) (fa : EvA) : Ev := fun us h => (fa us h).bind fun as h1 => match mapO (frz 8 h1) as with
  | some bs => (match as.length == n with | true => (match f bs with | .ok u => (match plainU 10 u with | true => .ok u h1 | false => .no) | .ex ⟨c, []⟩ => .ex ⟨c, []⟩ h1 | _ => .no) | false => .no)
  | none => .no
/-- f(..), our objects may be changed -/
def eCallH (n : Nat) (f : Fh) (fa : EvA) : Ev := fun us h => (fa us h).bind fun as h1 => match as.length == n with | true => f as h1 | false => .no
section
variable {G : Cfg} {W : WX} {σ : L2.St} {w : Wd} {Q : VK} {n : Nat}
theorem callG_pt {f : Fg} {as : List U} {vs : List V} (m : Sm G w) (l : RL G w as vs)
    (h : Pt G (R G) W σ w (match as.length == n && as.all (pureU 10) with | true => (match f as with | .ok u => .ok u w.h | .ex e => .ex e w.h | .no => .no) | false => .no) Q) : fnG G n f vs w.H Q (WE W σ) := by
  split at h
  · rename_i hp0
    rw [Bool.and_eq_true] at hp0
    have hn : vs.length = n := by rw [← l.length]; exact beq_iff_eq.mp hp0.1
    have hp := hp0.2
    have m0 : Sm G ⟨w.Z, [], [], w.H⟩ := ⟨rfl, .nil, (fun a h => nomatch h), m.dom, (fun i a o h _ => by simp at h)⟩
    refine ⟨hn, as, ⟨w.Z, [], [], w.H⟩, rfl, rfl, rfl, m0, pure_all (w := w) (w' := ⟨w.Z, [], [], w.H⟩) (fun u v r e => pure_of (w := w) (w' := ⟨w.Z, [], [], w.H⟩) rfl (fun a z => z) 10 u v r e) l hp, ?_⟩
    have back : ∀ w' : Wd, w'.r = [] → w'.Z = w.Z → w'.h = [] → Ext ⟨w.Z, [], [], w.H⟩ w' → Ext w ⟨w.Z, w.r, w.h, w'.H⟩ ∧ Sm G ⟨w.Z, w.r, w.h, w'.H⟩ := fun w' _ hZ _ e => by
      have ex : Ext w ⟨w.Z, w.r, w.h, w'.H⟩ := ⟨⟨[], by simp, by simp⟩, fun a h => .inl h, fun a h => h, fun a o h _ => e.keep a o h (.inl (by simp)), e.dom⟩
      refine ⟨ex, ⟨m.len, m.nd, m.z, fun a h q => m.dom a h (e.dom a q), fun i a o h1 h2 => (m.obj i a o h1 h2).up m ex fun b q => e.keep a b q (.inl (by simp))⟩⟩
    cases hf : f as with
    | ok u =>
      rw [hf] at h
      intro w' v a b c e m' r
      obtain ⟨x1, x2⟩ := back w' a b c e
      exact h ⟨w.Z, w.r, w.h, w'.H⟩ v rfl x1 x2 (R.bare (w := w') (w' := ⟨w.Z, w.r, w.h, w'.H⟩) a rfl (fun z q => by rw [b]; exact q) r)
    | ex x =>
      rw [hf] at h
      intro w' cls d a b c e m' r
      obtain ⟨x1, x2⟩ := back w' a b c e
      refine h ⟨w.Z, w.r, w.h, w'.H⟩ cls d rfl x1 x2 ?_
      obtain ⟨xc, fs⟩ := x
      obtain ⟨r1, r2⟩ := r
      refine ⟨r1, ?_⟩
      cases fs with
      | nil => exact r2
      | cons f r =>
        obtain ⟨dd, vs, e1, e2, e3, l⟩ := r2
        exact ⟨dd, vs, e1, e2, by rw [b] at e3; exact e3, RL.bare (w := w') (w' := ⟨w.Z, w.r, w.h, w'.H⟩) a rfl (fun z q => by rw [b]; exact q) l⟩
    | no => rw [hf] at h; exact h.elim
  · exact h.elim
theorem callR_pt {f : Fg} {as : List U} {vs : List V} (m : Sm G w) (l : RL G w as vs)
    (h : Pt G (R G) W σ w (match mapO (frz 8 w.h) as with | some bs => (match as.length == n with | true => (match f bs with | .ok u => (match plainU 10 u with | true => .ok u w.h | false => .no) | .ex ⟨c, []⟩ => .ex ⟨c, []⟩ w.h | _ => .no) | false => .no) | none => .no) Q) : fnG G n f vs w.H Q (WE W σ) := by
  split at h
  · rename_i bs hb
    split at h
    case h_2 => exact h.elim
    rename_i hp0
    have hn : vs.length = n := by rw [← l.length]; exact beq_iff_eq.mp hp0
    have m0 : Sm G ⟨fun _ => False, [], [], w.H⟩ := ⟨rfl, .nil, (fun a h => nomatch h), (fun a h => h.elim), (fun i a o h _ => by simp at h)⟩
    refine ⟨hn, bs, ⟨fun _ => False, [], [], w.H⟩, rfl, rfl, rfl, m0, frz_all (w := w) (w' := ⟨fun _ => False, [], [], w.H⟩) (fun u u' v r q => frz_of (w := w) (w' := ⟨fun _ => False, [], [], w.H⟩) rfl m (fun a z => False.elim z) (fun a _ z => z) 8 u u' v r q) l hb, ?_⟩
    have back : ∀ w' : Wd, Ext ⟨fun _ => False, [], [], w.H⟩ w' → Ext w ⟨w.Z, w.r, w.h, w'.H⟩ ∧ Sm G ⟨w.Z, w.r, w.h, w'.H⟩ := fun w' e => by
      have ex : Ext w ⟨w.Z, w.r, w.h, w'.H⟩ := ⟨⟨[], by simp, by simp⟩, fun a h => .inl h, fun a h => h, fun a o h _ => e.keep a o h (.inl (by simp)), e.dom⟩
      refine ⟨ex, ⟨m.len, m.nd, m.z, fun a h q => m.dom a h (e.dom a q), fun i a o h1 h2 => (m.obj i a o h1 h2).up m ex fun b q => e.keep a b q (.inl (by simp))⟩⟩
    split at h
    · rename_i u hf
      rw [hf]
      split at h
      · rename_i hp
        intro w' v a b c e m' r
        obtain ⟨x1, x2⟩ := back w' e
        exact h ⟨w.Z, w.r, w.h, w'.H⟩ v rfl x1 x2 (plain_of (w := w') (w' := ⟨w.Z, w.r, w.h, w'.H⟩) rfl 10 u v r hp)
      · exact h.elim
    · rename_i c hf
      rw [hf]
      intro w' cls d a b c e m' r
      obtain ⟨x1, x2⟩ := back w' e
      exact h ⟨w.Z, w.r, w.h, w'.H⟩ cls d rfl x1 x2 r
    · exact h.elim
  · exact h.elim
end
section
variable {X : Cx} {G : Cfg} {W : WX} {k n : Nat} {f : Addr} {fd : FuncData} {ps : List Str} {x : Str} {p pos : Pos} {e : Expr} {es : List Expr} {fa : EvA}
theorem f_callG {ff : Fg} (F : FnOk X.prog X.w X.K X.mg X.base (L2.CX X.prog X.w) k f fd ps (fnG G n ff)) (hr : Room k X.A) (hg : Gl X x) (hm : X.mg x = some (.ref f)) (hk : PySem.W.keepIn X.K (.ref f) = true) (hb : Binds X.K fd ps []) (tk : Takes X W)
    (ha : PA X (e :: es) (tA G fa W)) (hdb : (x == ("__debug__" : Str)) = false := by decide) (he : starEach (e :: es) X.env = (false, eval e X.env) :: starEach es X.env := by rfl) (hpl : (backTo pos (starEach es X.env)).any (·.1) = false := by rfl) :
    PE X (.Call (.Name x p) (e :: es) [] pos) (tE G (eCallG n ff fa) W) :=
  PE.imp (pe_callS (E := WE W) F hr hg hm hk hb (fun σ => passAt tk σ) ha hdb he hpl) fun σ _ Q ⟨us, w, e, m, sl, h⟩ => by
    subst e
    refine ⟨us, w, rfl, m, sl, (Pt.bind (Rel := RL G) h).imp ?_⟩
    rintro vs H1 ⟨w1, as, rfl, e1, m1, r1, h1⟩
    exact callG_pt m1 r1 h1
theorem f_callR {ff : Fg} (F : FnOk X.prog X.w X.K X.mg X.base (L2.CX X.prog X.w) k f fd ps (fnG G n ff)) (hr : Room k X.A) (hg : Gl X x) (hm : X.mg x = some (.ref f)) (hk : PySem.W.keepIn X.K (.ref f) = true) (hb : Binds X.K fd ps []) (tk : Takes X W)
    (ha : PA X (e :: es) (tA G fa W)) (hdb : (x == ("__debug__" : Str)) = false := by decide) (he : starEach (e :: es) X.env = (false, eval e X.env) :: starEach es X.env := by rfl) (hpl : (backTo pos (starEach es X.env)).any (·.1) = false := by rfl) :
    PE X (.Call (.Name x p) (e :: es) [] pos) (tE G (eCallR n ff fa) W) :=
  PE.imp (pe_callS (E := WE W) F hr hg hm hk hb (fun σ => passAt tk σ) ha hdb he hpl) fun σ _ Q ⟨us, w, e, m, sl, h⟩ => by
    subst e
    refine ⟨us, w, rfl, m, sl, (Pt.bind (Rel := RL G) h).imp ?_⟩
    rintro vs H1 ⟨w1, as, rfl, e1, m1, r1, h1⟩
    exact callR_pt m1 r1 h1
theorem f_callH {ff : Fh} (F : FnOk X.prog X.w X.K X.mg X.base (L2.CX X.prog X.w) k f fd ps (fnH G n ff)) (hr : Room k X.A) (hg : Gl X x) (hm : X.mg x = some (.ref f)) (hk : PySem.W.keepIn X.K (.ref f) = true) (hb : Binds X.K fd ps []) (tk : Takes X W)
    (ha : PA X (e :: es) (tA G fa W)) (hdb : (x == ("__debug__" : Str)) = false := by decide) (he : starEach (e :: es) X.env = (false, eval e X.env) :: starEach es X.env := by rfl) (hpl : (backTo pos (starEach es X.env)).any (·.1) = false := by rfl) :
    PE X (.Call (.Name x p) (e :: es) [] pos) (tE G (eCallH n ff fa) W) :=
  PE.imp (pe_callS (E := WE W) F hr hg hm hk hb (fun σ => passAt tk σ) ha hdb he hpl) fun σ _ Q ⟨us, w, e, m, sl, h⟩ => by
    subst e
    refine ⟨us, w, rfl, m, sl, (Pt.bind (Rel := RL G) h).imp ?_⟩
    rintro vs H1 ⟨w1, as, rfl, e1, m1, r1, h1⟩
    split at h1
    · rename_i hp
      refine ⟨by rw [← r1.length]; exact beq_iff_eq.mp hp, as, w1, rfl, m1, r1, ?_⟩
      cases hq : ff as w1.h with
      | ok u hh => rw [hq] at h1; exact h1
      | ex x hh => rw [hq] at h1; exact h1
      | no => rw [hq] at h1; exact h1
    · exact h1.elim
end
end Fn
/-! methods of lists; constants of the module -/
namespace Fn
open PySem L2 PySem.Spec PyProof.Rows
def OpM (G : Cfg) (r : V → List V → Hp → VK → Prop) (k : U → List U → List UO → Rs U) : Prop :=
  ∀ (w : Wd) (σ : L2.St) (W : WX) (x : U) (a : V) (xs : List U) (vs : List V) (Q : VK), Sm G w → R G w x a → RL G w xs vs → Pt G (R G) W σ w (k x xs w.h) Q → r a vs w.H Q
/-- the list's own method -/
def eMt0 (k : U → List U → List UO → Rs U) (fo : Ev) : Ev := fun us h => (fo us h).bind fun u h1 => match lstU h1 u with | some _ => k u [] h1 | none => .no
def eMt (k : U → List U → List UO → Rs U) (fo : Ev) (fa : EvA) : Ev := fun us h => (fo us h).bind fun u h1 => match lstU h1 u with | some _ => ((fa us h1).bind fun as h2 => k u as h2) | none => .no
def kAppend (u : U) (as : List U) (h : List UO) : Rs U := match u, as with
  | .ref i, [y] => (match h[i]? with | some (.lst xs) => (match szOk (xs.length + 1) with | true => .ok .non (h.set i (.lst (xs ++ [y]))) | false => .no) | _ => .no)
  | _, _ => .no
def kPop (u : U) (as : List U) (h : List UO) : Rs U := match u, as with
  | .ref i, [] => (match h[i]? with | some (.lst xs) => (match xs[xs.length - 1]? with | some y => .ok y (h.set i (.lst xs.dropLast)) | none => .no) | _ => .no)
  | _, _ => .no
def kPopAt (u : U) (as : List U) (h : List UO) : Rs U := match u, as with
  | .ref i, [.int n] => (match h[i]? with | some (.lst xs) => (match ixN xs.length n with | some j => (match xs[j]?, szOk xs.length with | some y, true => .ok y (h.set i (.lst (xs.eraseIdx j))) | _, _ => .no) | none => .no) | _ => .no)
  | _, _ => .no
def kReverse (u : U) (as : List U) (h : List UO) : Rs U := match u, as with
  | .ref i, [] => (match h[i]? with | some (.lst xs) => .ok .non (h.set i (.lst xs.reverse)) | _ => .no)
  | _, _ => .no
def kClear (u : U) (as : List U) (h : List UO) : Rs U := match u, as with
  | .ref i, [] => (match h[i]? with | some (.lst xs) => .ok .non (h.set i (.lst [])) | _ => .no)
  | _, _ => .no
def idxI (n : Int) : List Int → Nat → Option Nat
  | [], _ => none
  | x :: r, i => match x == n with | true => some i | false => idxI n r (i + 1)
/-- ints alone -/
def kIndex (u : U) (as : List U) (h : List UO) : Rs U := match as with
  | [.int n] => (match lstU h u with | some xs => (match toInts xs with | some ns => (match idxI n ns 0 with | some j => .ok (.int (j : Nat)) h | none => .no) | none => .no) | none => .no)
  | _ => .no
theorem idxI_spec {n : Int} : ∀ {l : List Int} {i j : Nat}, idxI n l i = some j → ∃ k, j = i + k ∧ l[k]? = some n ∧ ∀ m y, m < k → l[m]? = some y → y ≠ n
  | [], _, _, h => by cases h
  | x :: r, i, j, h => by
    unfold idxI at h
    split at h
    · rename_i q
      cases h
      exact ⟨0, rfl, by simp [beq_iff_eq.mp q], fun m y hm => absurd hm (Nat.not_lt_zero _)⟩
    · rename_i q
      obtain ⟨k, h1, h2, h3⟩ := idxI_spec h
      refine ⟨k + 1, by omega, by simpa using h2, fun m y hm hy => ?_⟩
      cases m with
      | zero =>
        simp at hy
        subst hy
        exact ne_of_beq_false q
      | succ m => exact h3 m y (by omega) (by simpa using hy)
theorem PtN.weak {G : Cfg} {W : WX} {σ : L2.St} {w w1 : Wd} {r : Rs (List U)} {Q : VK} (e : Ext w w1) (h : PtN G W σ w r Q) : PtN G W σ w1 r Q := by
  cases r with
  | ok xs hh => exact fun w' p vs a b c l d f => h w' p vs a (e.trans b) c l d (e.dom _ f)
  | ex x hh => exact fun w' c d a b => h w' c d a (e.trans b)
  | no => exact h
section
variable {G : Cfg}
theorem ok_append : OpM G rAppend kAppend := by
  intro w σ W x a xs vs Q m r l h
  unfold kAppend at h
  split at h
  · rename_i i y
    cases r with
    | @ref _ p hr =>
      cases l with
      | cons ry t =>
        cases t
        split at h
        · rename_i xs q
          split at h
          · rename_i hz
            cases m.obj _ _ _ hr q with
            | @lst _ ws hv l =>
              obtain ⟨ex, sm⟩ := putL (vs := ws) m hr q (l.append (.one ry))
              refine ⟨p, ws, _, rfl, rfl, hv, ?_, h _ .non rfl ex sm .non⟩
              have := szOk_le hz
              rw [← l.length]; omega
          · exact h.elim
        · exact h.elim
  · exact h.elim
theorem ok_pop : OpM G rPop kPop := by
  intro w σ W x a xs vs Q m r l h
  unfold kPop at h
  split at h
  · rename_i i
    cases r with
    | @ref _ p hr =>
      cases l
      split at h
      · rename_i xs q
        split at h
        · rename_i y hy
          cases m.obj _ _ _ hr q with
          | @lst _ ws hv l =>
            obtain ⟨ex, sm⟩ := putL (vs := ws) m hr q l.dropLast
            obtain ⟨v, hv2, rv⟩ := l.get hy
            rw [l.length] at hv2
            exact ⟨p, ws, v, rfl, rfl, hv, hv2, h _ v rfl ex sm (rv.up m ex)⟩
        · exact h.elim
      · exact h.elim
  · exact h.elim
theorem ok_popAt : OpM G rPopAt kPopAt := by
  intro w σ W x a xs vs Q m r l h
  unfold kPopAt at h
  split at h
  · rename_i i n
    cases r with
    | @ref _ p hr =>
      cases l with
      | cons ry t =>
        cases t
        cases ry
        split at h
        · rename_i xs q
          split at h
          · rename_i j hj
            split at h
            · rename_i y hy hz
              cases m.obj _ _ _ hr q with
              | @lst _ ws hv l =>
                obtain ⟨ex, sm⟩ := putL (vs := ws) m hr q (l.eraseIdx j)
                obtain ⟨v, hv2, rv⟩ := l.get hy
                rw [l.length] at hj hz
                obtain ⟨h1, h2, h3, h4⟩ := ixN_seq hj
                have hz := szOk_le hz
                rw [sizeLine_eq] at hz
                exact ⟨p, ws, n, j, v, rfl, rfl, hv, by omega, by omega, h1, hv2, h _ v rfl ex sm (rv.up m ex)⟩
            · exact h.elim
          · exact h.elim
        · exact h.elim
  · exact h.elim
theorem ok_reverse : OpM G rReverse kReverse := by
  intro w σ W x a xs vs Q m r l h
  unfold kReverse at h
  split at h
  · rename_i i
    cases r with
    | @ref _ p hr =>
      cases l
      split at h
      · rename_i xs q
        cases m.obj _ _ _ hr q with
        | @lst _ ws hv l =>
          obtain ⟨ex, sm⟩ := putL (vs := ws) m hr q l.reverse
          exact ⟨p, ws, rfl, rfl, hv, h _ .non rfl ex sm .non⟩
      · exact h.elim
  · exact h.elim
theorem ok_clear : OpM G rClear kClear := by
  intro w σ W x a xs vs Q m r l h
  unfold kClear at h
  split at h
  · rename_i i
    cases r with
    | @ref _ p hr =>
      cases l
      split at h
      · rename_i xs q
        cases m.obj _ _ _ hr q with
        | @lst _ ws hv l =>
          obtain ⟨ex, sm⟩ := putL (vs := ws) m hr q .nil
          exact ⟨p, ws, rfl, rfl, hv, h _ .non rfl ex sm .non⟩
      · exact h.elim
  · exact h.elim
theorem flat_ints (ns : List Int) : (ns.map V.int).all flatV = true := by
  rw [List.all_eq_true]
  intro x hx
  obtain ⟨n, _, rfl⟩ := List.mem_map.mp hx
  rfl
theorem ok_index : OpM G (rIndex G.K) kIndex := by
  intro w σ W x a xs vs Q m r l h
  unfold kIndex at h
  split at h
  · rename_i n
    cases l with
    | cons ry t =>
      cases t
      cases ry
      split at h
      · rename_i xs q
        split at h
        · rename_i ns q2
          split at h
          · rename_i j q3
            obtain ⟨p, ws, rfl, hs, l⟩ := lstU_of m r q
            obtain ⟨e1, e2⟩ := toInts_of l q2
            subst e1
            obtain ⟨k, hk, h1, h2⟩ := idxI_spec q3
            have hk : j = k := by omega
            subst hk
            refine ⟨p, ns.map V.int, .int n, j, .int n, rfl, rfl, hs, rfl, flat_ints ns, by rw [List.getElem?_map, h1]; rfl, by simp [eqV], fun i z hi hz => ?_, h.here m (.int _)⟩
            rw [List.getElem?_map] at hz
            cases hy : ns[i]? with
            | none => rw [hy] at hz; cases hz
            | some y =>
              rw [hy] at hz
              cases hz
              have := h2 i y hi hy
              simp [eqV, this]
          · exact h.elim
        · exact h.elim
      · exact h.elim
  · exact h.elim
end
section
variable {X : Cx} {G : Cfg} {W : WX} {o e : Expr} {es : List Expr} {fo : Ev} {fa : EvA} {name : Str} {apos cpos : Pos} {id : String} {r : V → List V → Hp → VK → Prop} {k : U → List U → List UO → Rs U}
theorem f_mt0 (hK : X.K = G.K) (slot : Slot "list" name id) (hty : typeOf (.builtin id) = pure (.type "method_descriptor")) (hm : MtR X id r) (hk : OpM G r k) (ho : PE X o (tE G fo W))
    (hbase : attributeBase o name X.env (eval o X.env) = eval o X.env := by rfl) (hline : (apos.endLine == cpos.line) = true := by rfl) : PE X (.Call (.Attribute o name apos) [] [] cpos) (tE G (eMt0 k fo) W) :=
  PE.imp (pe_bm0 PySem.F.plainAttrs_list slot hty hm ho hbase hline) fun σ _ Q ⟨us, w, e, m, sl, h⟩ => by
    subst e
    refine ⟨us, w, rfl, m, sl, (Pt.bind (Rel := R G) h).imp ?_⟩
    rintro v H1 ⟨w1, u, rfl, e1, m1, r1, h1⟩
    split at h1
    · rename_i xs q
      obtain ⟨p, vs, rfl, hs, l⟩ := lstU_of m1 r1 q
      exact ⟨.inl ⟨rfl, _, hK ▸ hs⟩, hk w1 σ W u _ [] [] Q m1 r1 .nil h1⟩
    · exact h1.elim
theorem f_mt (hK : X.K = G.K) (slot : Slot "list" name id) (hty : typeOf (.builtin id) = pure (.type "method_descriptor")) (hm : MtR X id r) (hk : OpM G r k) (ho : PE X o (tE G fo W)) (ha : PA X (e :: es) (tA G fa W))
    (hbase : attributeBase o name X.env (eval o X.env) = eval o X.env := by rfl)
    (hfew : ((backTo cpos (starEach (e :: es) X.env)).all (fun x => !x.1) && (backToKw cpos (keywordEach [] X.env)).all (fun x => x.1.isSome)
      && decide ((e :: es).length + ([] : List Keyword).length + (if ([] : List Keyword).isEmpty then 0 else 1) < 30)) = true := by rfl)
    (hline : (apos.endLine == cpos.line) = true := by rfl) (hs : starEach (e :: es) X.env = (false, eval e X.env) :: starEach es X.env := by rfl) (hplain : (backTo cpos (starEach es X.env)).any (·.1) = false := by rfl) :
    PE X (.Call (.Attribute o name apos) (e :: es) [] cpos) (tE G (eMt k fo fa) W) :=
  PE.imp (pe_bm PySem.F.plainAttrs_list slot hty hm ho ha hbase hfew hline hs hplain) fun σ _ Q ⟨us, w, e, m, sl, h⟩ => by
    subst e
    refine ⟨us, w, rfl, m, sl, (Pt.bind (Rel := R G) h).imp ?_⟩
    rintro v H1 ⟨w1, u, rfl, e1, m1, r1, h1⟩
    split at h1
    · rename_i xs q
      obtain ⟨p, vs, rfl, hs, l⟩ := lstU_of m1 r1 q
      refine ⟨.inl ⟨rfl, _, hK ▸ hs⟩, us, w1, rfl, m1, sl.up m e1, (Pt.bind (Rel := RL G) h1).imp ?_⟩
      rintro vs H2 ⟨w2, as, rfl, e2, m2, r2, h2⟩
      exact hk w2 σ W u _ as vs Q m2 (r1.up m1 e2) r2 h2
    · exact h1.elim
theorem f_append (hK : X.K = G.K) (ho : PE X o (tE G fo W)) (ha : PA X [e] (tA G fa W)) (hbase : attributeBase o "append" X.env (eval o X.env) = eval o X.env := by rfl)
    (hline : (apos.endLine == cpos.line) = true := by rfl) (hs : starEach [e] X.env = (false, eval e X.env) :: starEach [] X.env := by rfl)
    (hfew : ((backTo cpos (starEach [e] X.env)).all (fun x => !x.1) && (backToKw cpos (keywordEach [] X.env)).all (fun x => x.1.isSome)
      && decide ([e].length + ([] : List Keyword).length + (if ([] : List Keyword).isEmpty then 0 else 1) < 30)) = true := by rfl) :
    PE X (.Call (.Attribute o "append" apos) [e] [] cpos) (tE G (eMt kAppend fo fa) W) := f_mt hK PySem.F.slot_list_append PySem.F.type_list_append mt_append ok_append ho ha hbase hfew hline hs rfl
theorem f_popAt (hK : X.K = G.K) (ho : PE X o (tE G fo W)) (ha : PA X [e] (tA G fa W)) (hbase : attributeBase o "pop" X.env (eval o X.env) = eval o X.env := by rfl)
    (hline : (apos.endLine == cpos.line) = true := by rfl) (hs : starEach [e] X.env = (false, eval e X.env) :: starEach [] X.env := by rfl)
    (hfew : ((backTo cpos (starEach [e] X.env)).all (fun x => !x.1) && (backToKw cpos (keywordEach [] X.env)).all (fun x => x.1.isSome)
      && decide ([e].length + ([] : List Keyword).length + (if ([] : List Keyword).isEmpty then 0 else 1) < 30)) = true := by rfl) :
    PE X (.Call (.Attribute o "pop" apos) [e] [] cpos) (tE G (eMt kPopAt fo fa) W) := f_mt hK PySem.F.slot_list_pop PySem.F.type_list_pop mt_popAt ok_popAt ho ha hbase hfew hline hs rfl
theorem f_index (hK : X.K = G.K) (ho : PE X o (tE G fo W)) (ha : PA X [e] (tA G fa W)) (hbase : attributeBase o "index" X.env (eval o X.env) = eval o X.env := by rfl)
    (hline : (apos.endLine == cpos.line) = true := by rfl) (hs : starEach [e] X.env = (false, eval e X.env) :: starEach [] X.env := by rfl)
    (hfew : ((backTo cpos (starEach [e] X.env)).all (fun x => !x.1) && (backToKw cpos (keywordEach [] X.env)).all (fun x => x.1.isSome)
      && decide ([e].length + ([] : List Keyword).length + (if ([] : List Keyword).isEmpty then 0 else 1) < 30)) = true := by rfl) :
    PE X (.Call (.Attribute o "index" apos) [e] [] cpos) (tE G (eMt kIndex fo fa) W) := f_mt hK PySem.F.slot_list_index PySem.F.type_list_index (hK ▸ mt_index) ok_index ho ha hbase hfew hline hs rfl
theorem f_pop (hK : X.K = G.K) (ho : PE X o (tE G fo W)) (hbase : attributeBase o "pop" X.env (eval o X.env) = eval o X.env := by rfl)
    (hline : (apos.endLine == cpos.line) = true := by rfl) : PE X (.Call (.Attribute o "pop" apos) [] [] cpos) (tE G (eMt0 kPop fo) W) := f_mt0 hK PySem.F.slot_list_pop PySem.F.type_list_pop mt_pop ok_pop ho hbase hline
theorem f_reverse (hK : X.K = G.K) (ho : PE X o (tE G fo W)) (hbase : attributeBase o "reverse" X.env (eval o X.env) = eval o X.env := by rfl)
    (hline : (apos.endLine == cpos.line) = true := by rfl) : PE X (.Call (.Attribute o "reverse" apos) [] [] cpos) (tE G (eMt0 kReverse fo) W) := f_mt0 hK PySem.F.slot_list_reverse PySem.F.type_list_reverse mt_reverse ok_reverse ho hbase hline
theorem f_clear (hK : X.K = G.K) (ho : PE X o (tE G fo W)) (hbase : attributeBase o "clear" X.env (eval o X.env) = eval o X.env := by rfl)
    (hline : (apos.endLine == cpos.line) = true := by rfl) : PE X (.Call (.Attribute o "clear" apos) [] [] cpos) (tE G (eMt0 kClear fo) W) := f_mt0 hK PySem.F.slot_list_clear PySem.F.type_list_clear mt_clear ok_clear ho hbase hline
/-- a written constant of the module: a tuple of whole numbers -/
theorem f_globT {x : Str} {a : Addr} {us : List U} {pos : Pos} (hg : Gl X x) (hm : X.mg x = some (.ref a)) (h : ∀ w : Wd, R G w (.tup us) (.ref a)) (hd : (x == ("__debug__" : Str)) = false := by decide) : PE X (.Name x pos) (tE G (eC (.tup us)) W) :=
  PE.imp (pe_glob hg hm (v := .ref a) rfl hd) fun _ _ _ q => c_of h q
theorem f_globI {x : Str} {n : Int} {t : Tok} {pos : Pos} (hg : Gl X x) (hm : X.mg x = some (.int n t)) (hd : (x == ("__debug__" : Str)) = false := by decide) : PE X (.Name x pos) (tE G (eC (.int n)) W) :=
  PE.imp (pe_glob hg hm (v := .int n) ⟨_, rfl⟩ hd) fun _ _ _ q => c_of (fun _ => .int n) q
end
/-! ### new lists that will be changed: concatenated, repeated, cut -/
def eN2 (k : U → U → List UO → Rs (List U)) (fa fb : Ev) : EvL := fun us h => (fa us h).bind fun a h1 => (fb us h1).bind fun b h2 => k a b h2
def OpN2 (G : Cfg) (r : R2) (k : U → U → List UO → Rs (List U)) : Prop := ∀ (w0 w : Wd) (σ : L2.St) (W : WX) (x y : U) (a b : V) (Q : VK), Ext w0 w → Sm G w → R G w x a → R G w y b → PtN G W σ w0 (k x y w.h) Q → r a b w.H Q
theorem f_opN2 {X : Cx} {G : Cfg} {W : WX} {a b : Expr} {fa fb : Ev} {pos : Pos} {op : Operator} {r : R2} {k : U → U → List UO → Rs (List U)} (ho : OpR X (binaryOp op) r) (hk : OpN2 G r k) (ha : PE X a (tE G fa W)) (hb : PE X b (tE G fb W)) : PE X (.BinOp a op b pos) (tN G (eN2 k fa fb) W) :=
  PE.imp (pe_op ho ha hb) fun σ _ Q ⟨us, w, e, m, sl, h⟩ => by
    subst e
    refine ⟨us, w, rfl, m, sl, (PtN.bind (Rel := R G) h).imp ?_⟩
    rintro x H1 ⟨w1, u, rfl, e1, m1, r1, h1⟩
    refine ⟨us, w1, rfl, m1, sl.up m e1, (PtN.bind (Rel := R G) (PtN.weak e1 h1)).imp ?_⟩
    rintro y H2 ⟨w2, v, rfl, e2, m2, r2, h2⟩
    exact hk w1 w2 σ W u v x y Q e2 m2 (r1.up m1 e2) r2 h2
def nCat (x y : U) (h : List UO) : Rs (List U) := match lstH h x, lstH h y with
  | some xs, some ys => (match szOk (xs.length + ys.length) with | true => .ok (xs ++ ys) h | false => .no)
  | _, _ => .no
def nRep (x y : U) (h : List UO) : Rs (List U) := match lstH h x, y with
  | some xs, .int j => (match Nat.ble j.toNat 100000 && (Nat.blt j.natAbs 9223372036854775808) && szOk (xs.length * j.toNat) with | true => .ok (List.replicate j.toNat xs).flatten h | false => .no)
  | _, _ => .no
theorem ok_nCat {G : Cfg} : OpN2 G rCat nCat := by
  intro w0 w σ W x y a b Q e m rx ry h
  unfold nCat at h
  split at h
  · rename_i xs ys q1 q2
    split at h
    · rename_i hz
      obtain ⟨p1, vs, rfl, h1, l1⟩ := lstH_of m rx q1
      obtain ⟨p2, ws, rfl, h2, l2⟩ := lstH_of m ry q2
      exact ⟨p1, p2, vs, ws, rfl, rfl, h1, h2, by rw [← l1.length, ← l2.length]; exact szOk_le hz, fun p hp => newL e m (l1.append l2) rfl h hp⟩
    · exact h.elim
  · exact h.elim
theorem ok_nRep {G : Cfg} : OpN2 G rRep nRep := by
  intro w0 w σ W x y a b Q e m rx ry h
  unfold nRep at h
  split at h
  · rename_i xs j q
    cases ry
    split at h
    · rename_i hz
      rw [Bool.and_eq_true, Bool.and_eq_true] at hz
      have h1 : j.natAbs < 9223372036854775808 := Nat.le_of_ble_eq_true hz.1.2
      obtain ⟨p1, vs, rfl, h2, l1⟩ := lstH_of m rx q
      have e : (2 : Int) ^ 63 = 9223372036854775808 := by decide
      refine ⟨p1, j, vs, rfl, rfl, h2, by omega, by omega, by rw [← l1.length]; exact szOk_le hz.2, fun p hp => ?_⟩
      exact newL ‹Ext w0 w› m (l1.rep _) rfl h hp
    · exact h.elim
  · exact h.elim
def nSl (x : U) (lo hi : Option Int) (h : List UO) : Rs (List U) := match lstU h x with | some xs => .ok (cutU xs lo hi) h | none => .no
def eSlN (f : Ev) (lo hi : EvO) : EvL := fun us h => (f us h).bind fun x h1 => (lo us h1).bind fun a h2 => (hi us h2).bind fun b h3 => nSl x a b h3
section
variable {X : Cx} {G : Cfg} {W : WX} {a b : Expr} {fa fb : Ev} {pos : Pos}
theorem f_catN (ha : PE X a (tE G fa W)) (hb : PE X b (tE G fb W)) : PE X (.BinOp a .Add b pos) (tN G (eN2 nCat fa fb) W) := f_opN2 op_cat ok_nCat ha hb
theorem f_repN (ha : PE X a (tE G fa W)) (hb : PE X b (tE G fb W)) : PE X (.BinOp a .Mult b pos) (tN G (eN2 nRep fa fb) W) := f_opN2 op_rep ok_nRep ha hb
theorem f_slN {lo hi : Option Expr} {fl fh : EvO} {p2 : Pos} (hK : X.K = G.K) (ha : PE X a (tE G fa W)) (hl : PO X lo (tO G fl W)) (hh : PO X hi (tO G fh W)) : PE X (.Subscript a (.Slice lo hi none p2) pos) (tN G (eSlN fa fl fh) W) :=
  PE.imp (pe_slice (r := rSlL X.K) sl_list ha hl hh) fun σ _ Q ⟨us, w, e, m, sl, h⟩ => by
    subst e
    rw [hK]
    refine ⟨us, w, rfl, m, sl, (PtN.bind (Rel := R G) h).imp ?_⟩
    rintro x H1 ⟨w1, u, rfl, e1, m1, r1, h1⟩
    have h1 := PtN.weak e1 h1
    refine ⟨us, w1, rfl, m1, sl.up m e1, (PtN.bind (Rel := fun _ (a b : Option Int) => a = b) h1).imp ?_⟩
    rintro o1 H2 ⟨w2, lo', rfl, e2, m2, rfl, h2⟩
    have h2 := PtN.weak e2 h2
    refine ⟨us, w2, rfl, m2, (sl.up m e1).up m1 e2, (PtN.bind (Rel := fun _ (a b : Option Int) => a = b) h2).imp ?_⟩
    rintro o2 H3 ⟨w3, hi', rfl, e3, m3, rfl, h3⟩
    unfold nSl at h3
    have r3 := (r1.up m1 e2).up m2 e3
    split at h3
    · rename_i xs q
      obtain ⟨p, vs, rfl, hs, l⟩ := lstU_of m3 r3 q
      exact ⟨p, vs, rfl, hs, fun p hp => newL e3 m3 (l.cut _ _) rfl h3 hp⟩
    · exact h3.elim
end
end Fn
/-! the law's ends -/
namespace Fn
open PySem L2 PySem.Spec PyProof.Rows
/-- slots of no more use -/
def fgtU (us : Lo) : List Nat → Lo
  | [] => us
  | v :: vs => (fgtU us vs).set v none
theorem SL.fgt {G : Cfg} {w : Wd} {us : Lo} {σ : L2.St} (h : SL G w us σ) : ∀ vs : List Nat, SL G w (fgtU us vs) σ
  | [] => h
  | v :: vs => by
    have ih := SL.fgt h vs
    show SL G w ((fgtU us vs).set v none) σ
    refine ⟨by rw [List.length_set]; exact ih.1, fun i u q => ?_⟩
    by_cases e : v = i
    · subst e
      by_cases hl : v < (fgtU us vs).length
      · rw [List.getElem?_set_self hl] at q; cases q
      · rw [List.getElem?_eq_none (by simpa using hl)] at q; cases q
    · rw [List.getElem?_set_ne e] at q
      exact ih.2 i u q
def gFgt (vs : List Nat) (g : Sv) : Sv := fun us h => g (fgtU us vs) h
theorem ss_fgt {X : Cx} {G : Cfg} {W : WX} {l : List Stmt} {vs : List Nat} {g : Sv} (h : PSs X l (tS G g W)) : PSs X l (tS G (gFgt vs g) W) :=
  PSs.imp h fun D σ _ ⟨us, w, e, m, sl, q⟩ => ⟨fgtU us vs, w, e, m, sl.fgt vs, q⟩
theorem at_top {K : PySem.W.Frag} {G : Cfg} (hG : G.K = K) {H : Hp} {a : Addr} {ns : List Int} {F : Fg} (hO : Only H) (hS : SqL K H a (ns.map V.int)) (hl : ns.length ≤ 63) (h : F [.scr ns] = .ok (.bl true)) :
    fnG G 1 F [.ref a] H (fun v _ => v = .bl true) fun _ _ _ => False := by
  have r : ∀ w : Wd, w.H = H → R G w (.scr ns) (.ref a) := by
    rintro w rfl
    rcases hS with (h1 | h1) | h1
    · rcases hO a with h2 | ⟨o, xs, h2⟩
      · rw [h2] at h1; cases h1
      · rw [h2] at h1; cases h1
    · exact .scr (.inl h1)
    · exact .scr (.inr fun H' => .inr (hG ▸ h1))
  refine ⟨rfl, [.scr ns], ⟨fun _ => False, [], [], H⟩, rfl, rfl, rfl, ⟨rfl, .nil, (fun a h => nomatch h), (fun a h => h.elim), (fun i a o h _ => by simp at h)⟩, .cons (r _ rfl) .nil, ?_⟩
  rw [h]
  intro w' v _ _ _ _ _ r
  cases r
  rfl
theorem top_never {P : Program} {w : World} {H : Hp} {s : Shared} {e : Value} {s' : Shared} (h : L2.CX P w [] H s (fun _ _ _ => False) e s') : False := by
  obtain ⟨_, _, _, _, _, _, _, _, _, _, _, _, hE⟩ := h
  exact hE
def okR : Rt → Bool | .rt (.bl true) _ => true | _ => false
theorem okR_fin {r : Rt} (h : okR r = true) : fin r = .ok (.bl true) := by
  unfold okR at h
  split at h
  · rfl
  · cases h
end Fn
/-! the law's numbers: _law_cell, _law_number, _law_drawn -/
namespace Fn
open PySem L2 PySem.Spec PyProof.Rows
def cellB : Sv := (gSeq (gIf (bE (e2 kLt (eVar 1) (eCall kLen (eCons (eVar 0) eNil)))) (gRet (e2 kIx (eVar 0) (eVar 1))) gNx)
  (gRet (e2 kAdd (e2 kAdd (e2 kMul (eC (.int 17)) (eVar 1)) (e2 kMul (eC (.int 3)) (eCall kLen (eCons (eVar 0) eNil)))) (eC (.int 1)))))
def cellF : Fg := runG 2 cellB
def numberB : Sv := (gSeq (gSet 2 (eCall kAbs (eCons (eCallG 2 cellF (eCons (eVar 0) (eCons (eVar 1) eNil))) eNil)))
  (gSeq (gIf (bE (e2 kLt (eVar 2) (e2 (kI cPow fun i j => i ^ j.toNat) (eC (.int 10)) (eC (.int 18))))) (gSeq (gSet 2 (e2 kAdd (e2 kMul (e2 kAdd (eVar 2) (eC (.int 5))) (e2 kAdd (eVar 2) (eC (.int 48271)))) (e2 kMul (eC (.int 69621)) (eVar 1))))
  (gSet 2 (e2 kAdd (e2 kMul (eVar 2) (e2 kAdd (e2 (kI cMod Int.fmod) (eCall kInt (eCons (eVar 2) eNil)) (eC (.int 65537))) (eC (.int 11)))) (e2 (kI cDiv Int.fdiv) (eVar 2) (eC (.int 7)))))) gNx)
  (gRet (eVar 2))))
def numberF : Fg := runG 3 numberB
def drawnB : Sv := (gSeq (gSet 2 (eT (eLRg (eRg2 (eC (.int 1)) (e2 kAdd (eVar 1) (eC (.int 1)))))))
  (gSeq (gSet 3 (eT (eLst eNil)))
  (gSeq (gFor (ir1 (eVar 1)) (aName 4)
  (gSeq (gSet 5 (eCall kLen (eCons (eVar 2) eNil)))
  (gSeq (gEx (eMt kAppend (eVar 3) (eCons (eMt kPopAt (eVar 2) (eCons (e2 (kI cMod Int.fmod) (eCall kInt (eCons (eVar 0) eNil)) (eVar 5)) eNil)) eNil)))
  (gSet 0 (e2 (kI cDiv Int.fdiv) (eVar 0) (eVar 5))))))
  (gRet (eCall kTupC (eCons (eVar 3) eNil))))))
def drawnF : Fg := runG 6 drawnB
theorem atU_nat {α : Type} (xs : List α) (k : Nat) : atU xs (k : Int) = xs[k]? := rfl
theorem cMul_small {i j : Int} (h : i.natAbs < 18446744073709551616) : cMul i j = true := by
  unfold cMul
  rw [Bool.or_eq_true]
  exact .inl (Nat.ble_eq_true_of_le h)
theorem cMul_small2 {i j : Int} (h : j.natAbs < 18446744073709551616) : cMul i j = true := by
  unfold cMul
  rw [Bool.or_eq_true]
  exact .inr (Nat.ble_eq_true_of_le h)
theorem cell_ok (ns : List Int) (k : Nat) : ∃ i : Int, cellF [.scr ns, .int k] = .ok (.int i) := by
  by_cases hk : (k : Int) < (ns.length : Nat)
  · have hk' : k < ns.length := by omega
    refine ⟨ns[k], ?_⟩
    simp [cellF, runG, cellB, startU, gSeq, gIf, bE, e2, eVar, eCall, eCons, eNil, Rs.bind, Rs.then, kLen, kLt, kIB, seqU, lstU, gRet, kIx, atU_nat, hk, hk', fin, frz]
  · refine ⟨17 * k + 3 * ns.length + 1, ?_⟩
    simp [cellF, runG, cellB, startU, gSeq, gIf, bE, e2, eVar, eCall, eCons, eNil, eC, gNx, Rs.bind, Rs.then, kLen, kLt, kIB, seqU, lstU, gRet, kIx, kAdd, kMul, hk, fin, frz, cMul_small (i := 17) (by decide), cMul_small (i := 3) (by decide)]
theorem number_ok (ns : List Int) (k : Nat) : ∃ i : Int, numberF [.scr ns, .int k] = .ok (.int i) := by
  obtain ⟨c, hc⟩ := cell_ok ns k
  generalize ha : (if decide (c < 0) then -c else c) = a
  have ha0 : 0 ≤ a := by
    rw [← ha]
    split <;> rename_i h <;> simp at h <;> omega
  have hq : Nat.blt 7 1073741824 = true := by decide
  have hp : (Nat.ble 18 1000000 && Nat.blt 10 18446744073709551616) = true := by decide
  by_cases hk : a < 1000000000000000000
  · have h1 : cMul (a + 5) (a + 48271) = true := cMul_small (by omega)
    have h3 : ∀ x : Int, cMul x (Int.fmod x 65537 + 11) = true := fun x => cMul_small2 (by
      rw [Int.fmod_eq_emod_of_nonneg x (b := 65537) (by decide)]
      omega)
    have ha' : (if c < 0 then -c else c) = a := by simpa using ha
    simp [numberF, runG, numberB, startU, gSeq, gIf, gSet, bE, e2, eVar, eCall, eCallG, pureU, eCons, eNil, eC, gNx, Rs.bind, Rs.then, kAbs, kLt, kI, kIB, kInt, gRet, kAdd, kMul, hc, cPow, cMod, cDiv, fin, frz, cMul_small (i := 69621) (by decide), hp, hq, ha', hk, h1, h3]
  · refine ⟨a, ?_⟩
    simp [numberF, runG, numberB, startU, gSeq, gIf, gSet, bE, e2, eVar, eCall, eCallG, pureU, eCons, eNil, eC, gNx, Rs.bind, Rs.then, kAbs, kLt, kI, kIB, kInt, gRet, kAdd, kMul, hc, cPow, cMod, cDiv, fin, frz, cMul_small (i := 69621) (by decide), hp]
    simp only [decide_eq_true_eq] at ha
    simp [ha, hk]
/-- all that may be drawn -/
def draws : Nat → List Int → List (List Int)
  | 0, _ => [[]]
  | k + 1, L => (List.range L.length).flatMap fun i => match L[i]? with | some x => (draws k (L.eraseIdx i)).map (x :: ·) | none => []
def drawnBd : Sv := (gSeq (gSet 5 (eCall kLen (eCons (eVar 2) eNil)))
  (gSeq (gEx (eMt kAppend (eVar 3) (eCons (eMt kPopAt (eVar 2) (eCons (e2 (kI cMod Int.fmod) (eCall kInt (eCons (eVar 0) eNil)) (eVar 5)) eNil)) eNil)))
  (gSet 0 (e2 (kI cDiv Int.fdiv) (eVar 0) (eVar 5)))))
theorem szOk_of {n : Nat} (h : n ≤ 16777216) : szOk n = true := Nat.ble_eq_true_of_le h
theorem map_erase {α β : Type} {f : α → β} : ∀ (l : List α) (i : Nat), (l.map f).eraseIdx i = (l.eraseIdx i).map f
  | [], _ => rfl
  | _ :: _, 0 => rfl
  | x :: r, i + 1 => by simp [map_erase r i]
theorem drawn_step (n : Int) (c u5 : Option U) (x : U) (L R : List Int) (h0 : 0 < L.length) (h1 : L.length ≤ 1000) (h2 : R.length ≤ 1000) :
    ∃ (j : Nat) (y : Int), j < L.length ∧ L[j]? = some y ∧ ∃ n' : Int, drawnBd [some (.int n), c, some (.ref 0), some (.ref 1), some x, u5] [.lst (L.map .int), .lst (R.map .int)] =
      .nx [some (.int n'), c, some (.ref 0), some (.ref 1), some x, some (.int (L.length : Nat))] [.lst ((L.eraseIdx j).map .int), .lst ((R ++ [y]).map .int)] := by
  have e := Int.fmod_eq_emod_of_nonneg n (b := (L.length : Int)) (by omega)
  have q0 : 0 ≤ Int.fmod n (L.length : Int) := by rw [e]; exact Int.emod_nonneg _ (by omega)
  have q1 : Int.fmod n (L.length : Int) < (L.length : Int) := by rw [e]; exact Int.emod_lt_of_pos _ (by omega)
  generalize hi : Int.fmod n (L.length : Int) = i at q0 q1
  have hj : ixN L.length i = some i.toNat := by
    unfold ixN
    rw [if_pos q0, if_pos q1]
  have hjl : i.toNat < L.length := by omega
  have hz : ((L.length : Int) == 0) = false := by
    apply beq_false_of_ne; omega
  have hb : Nat.blt ((L.length : Int)).natAbs 1073741824 = true := Nat.ble_eq_true_of_le (by omega)
  have hb2 : Nat.blt L.length 1073741824 = true := Nat.ble_eq_true_of_le (by omega)
  have s1 : szOk L.length = true := szOk_of (by omega)
  have s2 : szOk (R.length + 1) = true := szOk_of (by omega)
  refine ⟨i.toNat, L[i.toNat], hjl, List.getElem?_eq_getElem hjl, Int.fdiv n (L.length : Int), ?_⟩
  simp [drawnBd, gSeq, gSet, gEx, eCall, e2, eVar, eCons, eNil, eMt, Rs.bind, Rs.then, kLen, kInt, kI, kPopAt, kAppend, cMod, cDiv, lstU, hi, hj, hjl, hz, hb, hb2, s1, s2]
  exact map_erase L i.toNat
theorem drawn_loop : ∀ (xs : List U) (L R : List Int) (n : Int) (c u4 u5 : Option U), xs.length ≤ L.length → L.length + R.length ≤ 1000 →
    ∃ p ∈ draws xs.length L, ∃ us' L', forL (aName 4) drawnBd xs [some (.int n), c, some (.ref 0), some (.ref 1), u4, u5] [.lst (L.map .int), .lst (R.map .int)] = .nx us' [.lst L', .lst ((R ++ p).map .int)] ∧ us'[3]? = some (some (.ref 1))
  | [], L, R, n, c, u4, u5, _, _ => ⟨[], by simp [draws], _, _, by simp [forL]; exact ⟨rfl, rfl⟩, rfl⟩
  | x :: xs, L, R, n, c, u4, u5, h1, h2 => by
    rw [List.length_cons] at h1
    obtain ⟨j, y, hj, hy, n', e⟩ := drawn_step n c u5 x L R (by omega) (by omega) (by omega)
    have hl : (L.eraseIdx j).length = L.length - 1 := by rw [List.length_eraseIdx]; simp [hj]
    obtain ⟨p, hp, us', L', e2, e3⟩ := drawn_loop xs (L.eraseIdx j) (R ++ [y]) n' c (some x) (some (.int (L.length : Nat))) (by omega) (by rw [List.length_append, List.length_singleton]; omega)
    refine ⟨y :: p, ?_, us', L', ?_, e3⟩
    · show y :: p ∈ draws (xs.length + 1) L
      unfold draws
      refine List.mem_flatMap.mpr ⟨j, List.mem_range.mpr hj, ?_⟩
      rw [hy]
      exact List.mem_map.mpr ⟨p, hp, rfl⟩
    · unfold forL
      show (match drawnBd [some (.int n), c, some (.ref 0), some (.ref 1), some x, u5] [.lst (L.map .int), .lst (R.map .int)] with | .nx us2 h2 => _ | .ct us2 h2 => _ | .bk us2 h2 => _ | q => q) = _
      rw [e]
      show forL _ _ _ _ _ = _
      rw [e2]
      simp
def nums (a n : Nat) : List Int := (List.range n).map fun i => (a : Int) + (i : Nat)
theorem mapO_frz {n : Nat} {h : List UO} : ∀ l : List Int, mapO (frz (n + 1) h) (l.map U.int) = some (l.map U.int)
  | [] => rfl
  | x :: r => by
    have := mapO_frz (n := n) (h := h) r
    simp only [List.map_cons, mapO, this]
    rfl
theorem gSeq_nx {a b : Sv} {us us1 : Lo} {h h1 : List UO} (e : a us h = .nx us1 h1) : gSeq a b us h = b us1 h1 := by
  unfold gSeq
  rw [e]
theorem gSeq_assoc (a b c : Sv) : gSeq (gSeq a b) c = gSeq a (gSeq b c) := by
  funext us h
  unfold gSeq
  cases a us h <;> rfl
theorem drawn_ok (n : Int) (c : Nat) (hc : c ≤ 100) : ∃ p ∈ draws c (nums 1 c), drawnF [.int n, .int c] = .ok (.tup (p.map .int)) := by
  have g1 : rgOk 1 ((c : Int) + 1) = true := by
    unfold rgOk
    rw [Bool.and_eq_true, Bool.and_eq_true]
    refine ⟨⟨by decide, Nat.ble_eq_true_of_le (by omega)⟩, szOk_of (by omega)⟩
  have g2 : rgU 1 ((c : Int) + 1) = (nums 1 c).map U.int := by
    unfold rgU nums
    rw [show ((c : Int) + 1 - 1).toNat = c by omega, List.map_map]
    rfl
  have g3 : rgOk 0 (c : Int) = true := by
    unfold rgOk
    rw [Bool.and_eq_true, Bool.and_eq_true]
    refine ⟨⟨by decide, Nat.ble_eq_true_of_le (by omega)⟩, szOk_of (by omega)⟩
  have g4 : (rgU 0 (c : Int)).length = c := by
    unfold rgU
    rw [List.length_map, List.length_range]
    omega
  have g5 : (nums 1 c).length = c := by unfold nums; rw [List.length_map, List.length_range]
  obtain ⟨p, hp, us', L', q1, q2⟩ := drawn_loop (rgU 0 (c : Int)) (nums 1 c) [] n (some (.int c)) none none (by omega) (by simp; omega)
  rw [g4] at hp
  refine ⟨p, hp, ?_⟩
  have s0 : szOk 0 = true := rfl
  have k : drawnB (startU 6 [.int n, .int c]) [] = .rt (.tup (p.map .int)) [.lst L', .lst (p.map .int)] := by
    unfold drawnB
    have w1 : gSet 2 (eT (eLRg (eRg2 (eC (.int 1)) (e2 kAdd (eVar 1) (eC (.int 1)))))) (startU 6 [.int n, .int c]) [] = .nx [some (.int n), some (.int c), some (.ref 0), none, none, none] [.lst ((nums 1 c).map .int)] := by
      simp [startU, gSet, eT, eLRg, eRg2, eC, eVar, Rs.bind, Rs.then, kAdd, Fn.e2, g1, g2]
    have w2 : gSet 3 (eT (eLst eNil)) [some (.int n), some (.int c), some (.ref 0), none, none, none] [.lst ((nums 1 c).map .int)] = .nx [some (.int n), some (.int c), some (.ref 0), some (.ref 1), none, none] [.lst ((nums 1 c).map .int), .lst []] := by
      simp [gSet, eT, eLst, eNil, Rs.bind, Rs.then, s0]
    have w3 : gFor (ir1 (eVar 1)) (aName 4) drawnBd [some (.int n), some (.int c), some (.ref 0), some (.ref 1), none, none] [.lst ((nums 1 c).map .int), .lst []] = .nx us' [.lst L', .lst (p.map .int)] := by
      simp only [gFor, ir1, eVar, Rs.bind, Rs.then, List.getElem?_cons_zero, List.getElem?_cons_succ, g3]
      simpa using q1
    have w4 : gRet (eCall kTupC (eCons (eVar 3) eNil)) us' [.lst L', .lst (p.map .int)] = .rt (.tup (p.map .int)) [.lst L', .lst (p.map .int)] := by
      simp [gRet, eCall, eCons, eNil, eVar, q2, Rs.bind, Rs.then, kTupC, lstU]
    exact (gSeq_nx w1).trans ((gSeq_nx w2).trans ((gSeq_nx w3).trans w4))
  show fin _ = _
  rw [k]
  show (match frz 8 _ (.tup (p.map .int)) with | some u' => Rg.ok u' | none => .no) = _
  show (match (match mapO (frz 7 _) (p.map U.int) with | some ys => some (U.tup ys) | none => none) with | some u' => Rg.ok u' | none => .no) = _
  rw [mapO_frz]
theorem all_chunks {α : Type} (f : α → Bool) (n K : Nat) (l : List α) (hl : l.length ≤ K * n) (h : ∀ k, k < K → ((l.drop (k * n)).take n).all f = true) : l.all f = true := by
  rw [List.all_eq_true]
  intro x hx
  obtain ⟨i, hi, rfl⟩ := List.getElem_of_mem hx
  have hn : 0 < n := by
    rcases Nat.eq_zero_or_pos n with z | z
    · subst z; omega
    · exact z
  have hk : i / n < K := Nat.div_lt_of_lt_mul (by rw [Nat.mul_comm]; omega)
  have e : i = i / n * n + i % n := by rw [Nat.mul_comm]; exact (Nat.div_add_mod i n).symm
  have hm := Nat.mod_lt i hn
  refine List.all_eq_true.mp (h _ hk) _ (List.mem_of_getElem? (i := i % n) ?_)
  rw [List.getElem?_take_of_lt hm, List.getElem?_drop, ← e]
  exact List.getElem?_eq_getElem hi
end Fn
/-! the same evaluators, by recursors: for the kernel's own reckoning -/
namespace Fn
open PySem L2
noncomputable section
/-! ### lists -/
def getA {α : Type} (l : List α) : Nat → Option α := List.rec (fun _ => none) (fun x _ ih i => Nat.rec (some x) (fun j _ => ih j) i) l
def setA {α : Type} (l : List α) (y : α) : Nat → List α := List.rec (fun _ => []) (fun x r ih i => Nat.rec (y :: r) (fun j _ => x :: ih j) i) l
def appA {α : Type} (l m : List α) : List α := List.rec m (fun x _ ih => x :: ih) l
def lenA {α : Type} (l : List α) : Nat := List.rec 0 (fun _ _ ih => Nat.succ ih) l
def mapA {α β : Type} (f : α → β) (l : List α) : List β := List.rec [] (fun x _ ih => f x :: ih) l
def allA {α : Type} (f : α → Bool) (l : List α) : Bool := List.rec true (fun x _ ih => Bool.rec false ih (f x)) l
def omapA {α β : Type} (f : α → Option β) (l : List α) : Option (List β) := List.rec (some []) (fun x _ ih => Option.rec none (fun y => Option.rec none (fun ys => some (y :: ys)) ih) (f x)) l
theorem getA_eq {α : Type} : ∀ (l : List α) (i : Nat), getA l i = l[i]?
  | [], _ => rfl
  | _ :: _, 0 => rfl
  | _ :: r, i + 1 => by
    rw [List.getElem?_cons_succ, ← getA_eq r i]
    rfl
theorem setA_eq {α : Type} (y : α) : ∀ (l : List α) (i : Nat), setA l y i = l.set i y
  | [], _ => rfl
  | _ :: _, 0 => rfl
  | x :: r, i + 1 => by
    show x :: setA r y i = _
    rw [setA_eq y r i]
    rfl
theorem appA_eq {α : Type} (m : List α) : ∀ l : List α, appA l m = l ++ m
  | [] => rfl
  | x :: r => by
    show x :: appA r m = _
    rw [appA_eq m r]
    rfl
theorem lenA_eq {α : Type} : ∀ l : List α, lenA l = l.length
  | [] => rfl
  | x :: r => by
    show Nat.succ (lenA r) = _
    rw [lenA_eq r]
    rfl
theorem mapA_eq {α β : Type} (f : α → β) : ∀ l : List α, mapA f l = l.map f
  | [] => rfl
  | x :: r => by
    show f x :: mapA f r = _
    rw [mapA_eq f r]
    rfl
theorem allA_eq {α : Type} (f : α → Bool) : ∀ l : List α, allA f l = l.all f
  | [] => rfl
  | x :: r => by
    have e : allA f (x :: r) = Bool.rec false (allA f r) (f x) := rfl
    rw [e, allA_eq f r, List.all_cons]
    cases f x <;> rfl
theorem omapA_eq {α β : Type} (f : α → Option β) : ∀ l : List α, omapA f l = mapO f l
  | [] => rfl
  | x :: r => by
    have e : omapA f (x :: r) = Option.rec none (fun y => Option.rec none (fun ys => some (y :: ys)) (omapA f r)) (f x) := rfl
    have e2 : mapO f (x :: r) = (match f x with | some y => (match mapO f r with | some ys => some (y :: ys) | none => none) | none => none) := rfl
    rw [e, e2, omapA_eq f r]
    cases f x with
    | none => rfl
    | some y => cases mapO f r <;> rfl
/-! ### numbers -/
def ltA (i j : Int) : Bool := Int.rec (fun a => Int.rec (fun b => Nat.blt a b) (fun _ => false) j) (fun a => Int.rec (fun _ => true) (fun b => Nat.blt b a) j) i
theorem beqA (a b : Nat) : Nat.beq a b = (a == b) := by
  rw [Bool.eq_iff_iff, beq_iff_eq]
  exact ⟨Nat.eq_of_beq_eq_true, fun h => by rw [h]; exact Nat.beq_refl b⟩
def eqA (i j : Int) : Bool := Int.rec (fun a => Int.rec (fun b => Nat.beq a b) (fun _ => false) j) (fun a => Int.rec (fun _ => false) (fun b => Nat.beq a b) j) i
theorem blt_eq (a b : Nat) : Nat.blt a b = decide (a < b) := by
  rw [Bool.eq_iff_iff, decide_eq_true_iff]
  exact ⟨Nat.le_of_ble_eq_true, Nat.ble_eq_true_of_le⟩
theorem ltA_eq (i j : Int) : ltA i j = decide (i < j) := by
  cases i with
  | ofNat a =>
    cases j with
    | ofNat b =>
      show Nat.blt a b = _
      rw [blt_eq, Bool.eq_iff_iff, decide_eq_true_iff, decide_eq_true_iff]
      exact Int.ofNat_lt.symm
    | negSucc b =>
      show false = _
      rw [eq_comm, decide_eq_false_iff_not, Int.negSucc_eq, Int.ofNat_eq_natCast]
      omega
  | negSucc a =>
    cases j with
    | ofNat b =>
      show true = _
      rw [eq_comm, decide_eq_true_iff, Int.negSucc_eq, Int.ofNat_eq_natCast]
      omega
    | negSucc b =>
      show Nat.blt b a = _
      rw [blt_eq, Bool.eq_iff_iff, decide_eq_true_iff, decide_eq_true_iff]
      rw [Int.negSucc_eq, Int.negSucc_eq]
      omega
theorem eqA_eq (i j : Int) : eqA i j = (i == j) := by
  rw [Bool.eq_iff_iff, beq_iff_eq]
  cases i with
  | ofNat a =>
    cases j with
    | ofNat b =>
      show Nat.beq a b = true ↔ _
      rw [beqA, beq_iff_eq]
      exact ⟨fun h => by rw [h], fun h => Int.ofNat.inj h⟩
    | negSucc b => exact ⟨fun h => Bool.noConfusion h, fun h => by cases h⟩
  | negSucc a =>
    cases j with
    | ofNat b => exact ⟨fun h => Bool.noConfusion h, fun h => by cases h⟩
    | negSucc b =>
      show Nat.beq a b = true ↔ _
      rw [beqA, beq_iff_eq]
      exact ⟨fun h => by rw [h], fun h => Int.negSucc.inj h⟩
/-- as ints -/
def intsA (l : List U) : Option (List Int) := omapA (fun u => U.casesOn u none (fun _ => none) (fun i => some i) (fun _ => none) (fun _ => none) (fun _ => none) (fun _ => none) (fun _ => none) (fun _ _ => none) (fun _ => none) (fun _ => none) (fun _ => none)) l
theorem intsA_eq : ∀ l : List U, intsA l = toInts l
  | [] => rfl
  | x :: r => by
    have ih := intsA_eq r
    unfold intsA at ih ⊢
    rw [omapA_eq] at ih ⊢
    unfold mapO
    rw [ih]
    cases x with
    | int i => show _ = (match toInts r with | some ns => some (i :: ns) | none => none); cases toInts r <;> rfl
    | _ => rfl
def maxA (l : List Int) : Int → Int := List.rec (fun m => m) (fun x _ ih m => ih (Bool.rec m x (ltA m x))) l
def minA (l : List Int) : Int → Int := List.rec (fun m => m) (fun x _ ih m => ih (Bool.rec m x (ltA x m))) l
theorem maxA_eq : ∀ (l : List Int) (m : Int), maxA l m = maxI m l
  | [], _ => rfl
  | x :: r, m => by
    show maxA r (Bool.rec m x (ltA m x)) = _
    rw [maxA_eq r, ltA_eq, maxI]
    cases decide (m < x) <;> rfl
theorem minA_eq : ∀ (l : List Int) (m : Int), minA l m = minI m l
  | [], _ => rfl
  | x :: r, m => by
    show minA r (Bool.rec m x (ltA x m)) = _
    rw [minA_eq r, ltA_eq, minI]
    cases decide (x < m) <;> rfl
def sumA (l : List Int) : Int := List.rec 0 (fun x _ ih => x + ih) l
theorem sumA_eq : ∀ l : List Int, sumA l = sumI l
  | [] => rfl
  | x :: r => by
    show x + sumA r = _
    rw [sumA_eq r]
    rfl
def rgA (n : Nat) : Nat → List U := Nat.rec (fun _ => []) (fun _ ih lo => .int (.ofNat lo) :: ih (Nat.succ lo)) n
theorem rgA_eq : ∀ (n lo : Nat), rgA n lo = (List.range n).map fun i => U.int ((lo : Int) + (i : Nat))
  | 0, _ => rfl
  | n + 1, lo => by
    show U.int (.ofNat lo) :: rgA n (lo + 1) = _
    rw [rgA_eq n (lo + 1), List.range_succ_eq_map, List.map_cons, List.map_map]
    have z : U.int (.ofNat lo) = U.int ((lo : Int) + ((0 : Nat) : Int)) := by
      congr 1
    rw [z]
    congr 1
    refine List.map_congr_left fun i _ => ?_
    show U.int (((lo + 1 : Nat) : Int) + (i : Int)) = U.int ((lo : Int) + ((i + 1 : Nat) : Int))
    congr 1
    omega
/-- lo, .., hi - 1 -/
def rgUA (a b : Int) : List U := Int.rec (fun lo => Int.rec (fun hi => rgA (hi - lo) lo) (fun _ => rgU a b) b) (fun _ => rgU a b) a
theorem rgUA_eq (a b : Int) : rgUA a b = rgU a b := by
  cases a with
  | ofNat lo =>
    cases b with
    | ofNat hi =>
      show rgA (hi - lo) lo = rgU (lo : Int) (hi : Int)
      rw [rgA_eq]
      unfold rgU
      rw [show ((hi : Int) - (lo : Int)).toNat = hi - lo by omega]
    | negSucc _ => rfl
  | negSucc _ => rfl
/-! ### evaluators -/
def xVar (i : Nat) : Ev := fun us h => Option.rec .no (fun o => Option.rec .no (fun u => .ok u h) o) (getA us i)
theorem xVar_eq : xVar = eVar := by
  funext i us h
  show (Option.rec _ _ (getA us i) : Rs U) = _
  rw [getA_eq]
  unfold eVar
  cases us[i]? with
  | none => rfl
  | some o => cases o <;> rfl
def xE1 (k : U → List UO → Rs U) (fa : Ev) : Ev := fun us h => Rs.rec (fun a h1 => k a h1) (fun e h1 => .ex e h1) .no (fa us h)
def xE2 (k : U → U → List UO → Rs U) (fa fb : Ev) : Ev := fun us h => Rs.rec (fun a h1 => Rs.rec (fun b h2 => k a b h2) (fun e h2 => .ex e h2) .no (fb us h1)) (fun e h1 => .ex e h1) .no (fa us h)
theorem xE1_eq : xE1 = e1 := by
  funext k fa us h
  show Rs.rec _ _ _ (fa us h) = (fa us h).bind _
  cases fa us h <;> rfl
theorem xE2_eq : xE2 = e2 := by
  funext k fa fb us h
  show Rs.rec _ _ _ (fa us h) = (fa us h).bind _
  cases fa us h with
  | ok a h1 =>
    show Rs.rec _ _ _ (fb us h1) = (fb us h1).bind _
    cases fb us h1 <;> rfl
  | ex _ _ => rfl
  | no => rfl
def xCons (fa : Ev) (fr : EvA) : EvA := fun us h => Rs.rec (fun a h1 => Rs.rec (fun r h2 => .ok (a :: r) h2) (fun e h2 => .ex e h2) .no (fr us h1)) (fun e h1 => .ex e h1) .no (fa us h)
theorem xCons_eq : xCons = eCons := by
  funext fa fb us h
  show Rs.rec _ _ _ (fa us h) = (fa us h).bind _
  cases fa us h with
  | ok a h1 =>
    show Rs.rec _ _ _ (fb us h1) = (fb us h1).bind _
    cases fb us h1 <;> rfl
  | ex _ _ => rfl
  | no => rfl
def onI (u : U) (k : Int → Rs U) (d : Rs U) : Rs U := U.casesOn u d (fun _ => d) k (fun _ => d) (fun _ => d) (fun _ => d) (fun _ => d) (fun _ => d) (fun _ _ => d) (fun _ => d) (fun _ => d) (fun _ => d)
/-- ints at once, else as it is -/
def xII (k : U → U → List UO → Rs U) (f : Int → Int → List UO → Rs U) (x y : U) (h : List UO) : Rs U := onI x (fun i => onI y (fun j => f i j h) (k x y h)) (k x y h)
theorem xII_eq {k : U → U → List UO → Rs U} {f : Int → Int → List UO → Rs U} (hf : ∀ i j h, f i j h = k (.int i) (.int j) h) : xII k f = k := by
  funext x y h
  cases x with
  | int i => cases y with
    | int j => exact hf i j h
    | _ => rfl
  | _ => rfl
def xAddS (x y : U) (h : List UO) : Rs U := U.casesOn x (kAdd x y h) (fun _ => kAdd x y h) (fun i => onI y (fun j => .ok (.int (i + j)) h) (kAdd x y h)) (fun _ => kAdd x y h) (fun _ => kAdd x y h)
  (fun xs => U.casesOn y (kAdd x y h) (fun _ => kAdd x y h) (fun _ => kAdd x y h) (fun _ => kAdd x y h) (fun _ => kAdd x y h) (fun ys => Bool.rec .no (.ok (.tup (appA xs ys)) h) (szOk (lenA xs + lenA ys))) (fun _ => kAdd x y h) (fun _ => kAdd x y h) (fun _ _ => kAdd x y h) (fun _ => kAdd x y h) (fun _ => (kAdd x y h)) (fun _ => (kAdd x y h)))
  (fun xs => U.casesOn y (kAdd x y h) (fun _ => kAdd x y h) (fun _ => kAdd x y h) (fun _ => kAdd x y h) (fun _ => kAdd x y h) (fun _ => kAdd x y h) (fun ys => Bool.rec .no (.ok (.fl (appA xs ys)) h) (szOk (lenA xs + lenA ys))) (fun _ => kAdd x y h) (fun _ _ => kAdd x y h) (fun _ => kAdd x y h) (fun _ => (kAdd x y h)) (fun _ => (kAdd x y h)))
  (fun _ => kAdd x y h) (fun _ _ => kAdd x y h) (fun _ => kAdd x y h) (fun _ => (kAdd x y h)) (fun _ => (kAdd x y h))
theorem xAddS_eq : xAddS = kAdd := by
  funext x y h
  cases x with
  | int i => cases y <;> rfl
  | tup xs => cases y with
    | tup ys =>
      show Bool.rec _ _ (szOk (lenA xs + lenA ys)) = if szOk (xs.length + ys.length) then Rs.ok (U.tup (xs ++ ys)) h else Rs.no
      rw [lenA_eq, lenA_eq, appA_eq]
      cases szOk (xs.length + ys.length) <;> rfl
    | _ => rfl
  | fl xs => cases y with
    | fl ys =>
      show Bool.rec _ _ (szOk (lenA xs + lenA ys)) = if szOk (xs.length + ys.length) then Rs.ok (U.fl (xs ++ ys)) h else Rs.no
      rw [lenA_eq, lenA_eq, appA_eq]
      cases szOk (xs.length + ys.length) <;> rfl
    | _ => rfl
  | _ => rfl
def xLt := xII kLt fun i j h => .ok (.bl (ltA i j)) h
def xGt := xII kGt fun i j h => .ok (.bl (ltA j i)) h
def xLe := xII kLe fun i j h => .ok (.bl (Bool.rec true false (ltA j i))) h
def xGe := xII kGe fun i j h => .ok (.bl (Bool.rec true false (ltA i j))) h
def xEq := xII kEq fun i j h => .ok (.bl (eqA i j)) h
def xNe := xII kNe fun i j h => .ok (.bl (Bool.rec true false (eqA i j))) h
theorem xLt_eq : xLt = kLt := xII_eq fun i j h => by rw [ltA_eq]; rfl
theorem xGt_eq : xGt = kGt := xII_eq fun i j h => by rw [ltA_eq]; rfl
theorem not_lt_dec (i j : Int) : (Bool.rec true false (decide (i < j)) : Bool) = decide (j ≤ i) := by
  by_cases q : i < j
  · rw [decide_eq_true q, decide_eq_false (by omega)]
  · rw [decide_eq_false q, decide_eq_true (by omega)]
theorem xLe_eq : xLe = kLe := xII_eq fun i j h => by rw [ltA_eq, not_lt_dec]; rfl
theorem xGe_eq : xGe = kGe := xII_eq fun i j h => by rw [ltA_eq, not_lt_dec]; rfl
theorem xEq_eq : xEq = kEq := xII_eq fun i j h => by rw [eqA_eq]; rfl
theorem xNe_eq : xNe = kNe := xII_eq fun i j h => by
  rw [eqA_eq]
  show _ = Rs.ok (U.bl (!(i == j))) h
  cases (i == j) <;> rfl
def seqA (h : List UO) (u : U) : Option (List U) := U.casesOn u none (fun _ => none) (fun _ => none) (fun _ => none) (fun _ => none) (fun xs => some xs) (fun xs => some xs) (fun xs => some (xs.map .int)) (fun _ _ => none)
  (fun i => Option.rec none (fun o => UO.casesOn o (fun xs => some xs) (fun _ => none) (fun _ => none) (fun _ _ => none)) (getA h i)) (fun _ => none) (fun _ => none)
theorem seqA_eq : seqA = seqU := by
  funext h u
  cases u with
  | ref i =>
    show (Option.rec _ _ (getA h i) : Option (List U)) = _
    rw [getA_eq]
    unfold seqU lstU
    dsimp only
    cases h[i]? with
    | none => rfl
    | some o => cases o <;> rfl
  | _ => rfl
def lstA (h : List UO) (u : U) : Option (List U) := U.casesOn u none (fun _ => none) (fun _ => none) (fun _ => none) (fun _ => none) (fun xs => none) (fun xs => some xs) (fun xs => some (xs.map .int)) (fun _ _ => none)
  (fun i => Option.rec none (fun o => UO.casesOn o (fun xs => some xs) (fun _ => none) (fun _ => none) (fun _ _ => none)) (getA h i)) (fun _ => none) (fun _ => none)
theorem lstA_eq : lstA = lstU := by
  funext h u
  cases u with
  | ref i =>
    show (Option.rec _ _ (getA h i) : Option (List U)) = _
    rw [getA_eq]
    unfold lstU
    dsimp only
    cases h[i]? with
    | none => rfl
    | some o => cases o <;> rfl
  | _ => rfl
def xIx (x y : U) (h : List UO) : Rs U := onI y (fun i => Int.rec (fun n => U.casesOn x (kIx x y h) (fun _ => kIx x y h) (fun _ => kIx x y h) (fun _ => kIx x y h) (fun _ => kIx x y h)
    (fun xs => Option.rec .no (fun u => .ok u h) (getA xs n)) (fun xs => Option.rec .no (fun u => .ok u h) (getA xs n)) (fun _ => kIx x y h) (fun _ _ => kIx x y h)
    (fun p => Option.rec .no (fun xs => Option.rec .no (fun u => .ok u h) (getA xs n)) (seqA h (.ref p))) (fun _ => (kIx x y h)) (fun _ => (kIx x y h))) (fun _ => kIx x y h) i) (kIx x y h)
theorem xIx_eq : xIx = kIx := by
  funext x y h
  cases y with
  | int i =>
    cases i with
    | ofNat n =>
      cases x with
      | tup xs =>
        show Option.rec _ _ (getA xs n) = (match xs[n]? with | some u => Rs.ok u h | none => .no)
        rw [getA_eq]
        cases xs[n]? <;> rfl
      | fl xs =>
        show Option.rec _ _ (getA xs n) = (match xs[n]? with | some u => Rs.ok u h | none => .no)
        rw [getA_eq]
        cases xs[n]? <;> rfl
      | ref p =>
        show Option.rec _ _ (seqA h (.ref p)) = (match seqU h (.ref p) with | some xs => (match xs[n]? with | some u => Rs.ok u h | none => .no) | none => .no)
        rw [seqA_eq]
        cases seqU h (.ref p) with
        | none => rfl
        | some xs =>
          show Option.rec _ _ (getA xs n) = (match xs[n]? with | some u => Rs.ok u h | none => .no)
          rw [getA_eq]
          cases xs[n]? <;> rfl
      | _ => rfl
    | negSucc n => rfl
  | _ => rfl
/-! #### calls -/
def on1 (l : List U) (k : U → Rs U) (d : Rs U) : Rs U := List.rec d (fun u r _ => List.rec (k u) (fun _ _ _ => d) r) l
def xCall (k : List U → List UO → Rs U) (fa : EvA) : Ev := fun us h => Rs.rec (fun a h1 => k a h1) (fun e h1 => .ex e h1) .no (fa us h)
theorem xCall_eq : xCall = eCall := by
  funext k fa us h
  show Rs.rec _ _ _ (fa us h) = (fa us h).bind _
  cases fa us h <;> rfl
def xLen (l : List U) (h : List UO) : Rs U := on1 l (fun u => U.casesOn u (kLen l h) (fun _ => kLen l h) (fun _ => kLen l h) (fun _ => kLen l h) (fun _ => kLen l h) (fun xs => .ok (.int (.ofNat (lenA xs))) h) (fun xs => .ok (.int (.ofNat (lenA xs))) h) (fun _ => kLen l h) (fun _ _ => kLen l h)
  (fun i => Option.rec .no (fun o => UO.casesOn o (fun xs => .ok (.int (.ofNat (lenA xs))) h) (fun _ => kLen l h) (fun _ => kLen l h) (fun _ _ => kLen l h)) (getA h i)) (fun _ => (kLen l h)) (fun _ => (kLen l h))) (kLen l h)
theorem xLen_eq : xLen = kLen := by
  funext l h
  cases l with
  | nil => rfl
  | cons u r =>
    cases r with
    | cons _ _ => rfl
    | nil =>
      cases u with
      | tup xs => show Rs.ok (U.int (.ofNat (lenA xs))) h = _; rw [lenA_eq]; rfl
      | fl xs => show Rs.ok (U.int (.ofNat (lenA xs))) h = _; rw [lenA_eq]; rfl
      | ref i =>
        show Option.rec _ _ (getA h i) = kLen [.ref i] h
        rw [getA_eq]
        unfold kLen
        dsimp only
        cases h[i]? with
        | none => rfl
        | some o => cases o with
          | lst xs => show Rs.ok (U.int (.ofNat (lenA xs))) h = _; rw [lenA_eq]; rfl
          | _ => rfl
      | _ => rfl
def xMaxL (h : List UO) (u : U) : Rs U := Option.rec .no (fun xs => Option.rec .no (fun ns => List.rec .no (fun n r _ => .ok (.int (maxA r n)) h) ns) (intsA xs)) (lstA h u)
def xMax (l : List U) (h : List UO) : Rs U := on1 l (fun u => xMaxL h u) (kMax l h)
theorem xMax_eq : xMax = kMax := by
  funext l h
  have key : ∀ u, xMaxL h u = (match lstU h u with | some xs => (match toInts xs with | some (n :: ns) => (Rs.ok (U.int (maxI n ns)) h : Rs U) | _ => .no) | none => .no) := fun u => by
    unfold xMaxL
    rw [lstA_eq]
    cases lstU h u with
    | none => rfl
    | some xs =>
      show (Option.rec _ _ (intsA xs) : Rs U) = _
      rw [intsA_eq]
      dsimp only
      cases toInts xs with
      | none => rfl
      | some ns =>
        cases ns with
        | nil => rfl
        | cons n r => show Rs.ok (U.int (maxA r n)) h = _; rw [maxA_eq]
  cases l with
  | nil => rfl
  | cons u r =>
    cases r with
    | cons _ _ => rfl
    | nil => exact (key u).trans (by cases u <;> rfl)
def xMaxD (x d : U) (h : List UO) : Rs U := onI d (fun d => Option.rec .no (fun xs => Option.rec .no (fun ns => .ok (.int (List.rec d (fun n r _ => maxA r n) ns)) h) (intsA xs)) (seqA h x)) .no
theorem xMaxD_eq : xMaxD = kMaxD := by
  funext x d h
  cases d with
  | int d =>
    show Option.rec _ _ (seqA h x) = (match seqU h x with | some xs => (match toInts xs with | some ns => (Rs.ok (U.int (match ns with | [] => d | n :: r => maxI n r)) h : Rs U) | none => .no) | none => .no)
    rw [seqA_eq]
    cases seqU h x with
    | none => rfl
    | some xs =>
      show (Option.rec _ _ (intsA xs) : Rs U) = _
      rw [intsA_eq]
      dsimp only
      cases toInts xs with
      | none => rfl
      | some ns => cases ns with
        | nil => rfl
        | cons n r => show Rs.ok (U.int (maxA r n)) h = _; rw [maxA_eq]
  | _ => rfl
def xSum (l : List U) (h : List UO) : Rs U := on1 l (fun u => Option.rec .no (fun xs => Option.rec .no (fun ns => .ok (.int (sumA ns)) h) (intsA xs)) (lstA h u)) .no
theorem xSum_eq : xSum = kSum := by
  funext l h
  cases l with
  | nil => rfl
  | cons u r =>
    cases r with
    | cons _ _ => rfl
    | nil =>
      show Option.rec _ _ (lstA h u) = (match lstU h u with | some xs => (match toInts xs with | some ns => (Rs.ok (U.int (sumI ns)) h : Rs U) | _ => .no) | none => .no)
      rw [lstA_eq]
      cases lstU h u with
      | none => rfl
      | some xs =>
        show (Option.rec _ _ (intsA xs) : Rs U) = _
        rw [intsA_eq]
        dsimp only
        cases toInts xs with
        | none => rfl
        | some ns => show Rs.ok (U.int (sumA ns)) h = _; rw [sumA_eq]
def xTupC (l : List U) (h : List UO) : Rs U := on1 l (fun u => Option.rec .no (fun xs => .ok (.tup xs) h) (seqA h u)) .no
theorem xTupC_eq : xTupC = kTupC := by
  funext l h
  cases l with
  | nil => rfl
  | cons u r =>
    cases r with
    | cons _ _ => cases u <;> rfl
    | nil =>
      show (Option.rec _ _ (seqA h u) : Rs U) = _
      rw [seqA_eq]
      cases u with
      | tup xs => rfl
      | ref i => show Option.rec _ _ (lstU h (.ref i)) = (match lstU h (.ref i) with | some xs => (Rs.ok (U.tup xs) h : Rs U) | none => .no); cases lstU h (.ref i) <;> rfl
      | _ => rfl
/-! #### lists of ours -/
def xLs (h : List UO) (i : Nat) (k : List U → Rs U) : Rs U := Option.rec .no (fun o => UO.casesOn o k (fun _ => .no) (fun _ => .no) (fun _ _ => .no)) (getA h i)
def xT (f : EvL) : Ev := fun us h => Rs.rec (fun xs h1 => .ok (.ref (lenA h1)) (appA h1 [.lst xs])) (fun e h1 => .ex e h1) .no (f us h)
theorem xT_eq : xT = eT := by
  funext f us h
  show Rs.rec _ _ _ (f us h) = (f us h).bind _
  cases f us h with
  | ok xs h1 => show Rs.ok _ _ = _; rw [lenA_eq, appA_eq]; rfl
  | ex _ _ => rfl
  | no => rfl
def xAppM (fo : Ev) (fa : EvA) : Ev := fun us h => Rs.rec (fun u h1 => U.casesOn u (eMt kAppend fo fa us h) (fun _ => eMt kAppend fo fa us h) (fun _ => eMt kAppend fo fa us h) (fun _ => eMt kAppend fo fa us h) (fun _ => eMt kAppend fo fa us h) (fun _ => eMt kAppend fo fa us h) (fun _ => eMt kAppend fo fa us h) (fun _ => eMt kAppend fo fa us h) (fun _ _ => eMt kAppend fo fa us h)
    (fun i => xLs h1 i fun _ => Rs.rec (fun as h2 => on1 as (fun y => xLs h2 i fun xs => Bool.rec .no (.ok .non (setA h2 (.lst (appA xs [y])) i)) (szOk (Nat.succ (lenA xs)))) .no) (fun e h2 => .ex e h2) .no (fa us h1)) (fun _ => (eMt kAppend fo fa us h)) (fun _ => (eMt kAppend fo fa us h))) (fun e h1 => .ex e h1) .no (fo us h)
theorem xLs_eq (h : List UO) (i : Nat) (k : List U → Rs U) : xLs h i k = (match h[i]? with | some (.lst xs) => k xs | _ => .no) := by
  unfold xLs
  rw [getA_eq]
  cases h[i]? with
  | none => rfl
  | some o => cases o <;> rfl
theorem xAppM_eq : xAppM = eMt kAppend := by
  funext fo fa us h
  have z : eMt kAppend fo fa us h = (fo us h).bind fun u h1 => match lstU h1 u with | some _ => ((fa us h1).bind fun as h2 => kAppend u as h2) | none => .no := rfl
  unfold xAppM
  cases q : fo us h with
  | ex _ _ => rw [z, q]; rfl
  | no => rw [z, q]; rfl
  | ok u h1 =>
    cases u with
    | ref i =>
      rw [z, q]
      show xLs h1 i _ = (match (match h1[i]? with | some (.lst xs) => some xs | _ => none) with | some _ => ((fa us h1).bind fun as h2 => kAppend (.ref i) as h2) | none => .no)
      rw [xLs_eq]
      cases h1[i]? with
      | none => rfl
      | some o => cases o with
        | lst xs =>
          show Rs.rec _ _ _ (fa us h1) = (fa us h1).bind _
          cases fa us h1 with
          | ok as h2 =>
            show on1 as _ _ = kAppend (.ref i) as h2
            cases as with
            | nil => rfl
            | cons y r =>
              cases r with
              | cons _ _ => rfl
              | nil =>
                show xLs h2 i _ = (match h2[i]? with | some (.lst xs) => (match szOk (xs.length + 1) with | true => (Rs.ok U.non (h2.set i (.lst (xs ++ [y]))) : Rs U) | false => .no) | _ => .no)
                rw [xLs_eq]
                cases h2[i]? with
                | none => rfl
                | some o => cases o with
                  | lst xs =>
                    show (Bool.rec _ _ (szOk (Nat.succ (lenA xs))) : Rs U) = _
                    rw [lenA_eq, setA_eq, appA_eq]
                    dsimp only
                    cases szOk (xs.length + 1) <;> rfl
                  | _ => rfl
          | ex _ _ => rfl
          | no => rfl
        | _ => rfl
    | _ => rfl
def ixA (n : Nat) (i : Int) : Option Nat := Int.rec (fun a => Bool.rec none (some a) (Nat.blt a n)) (fun _ => ixN n i) i
theorem ixA_eq (n : Nat) (i : Int) : ixA n i = ixN n i := by
  cases i with
  | ofNat a =>
    show Bool.rec none (some a) (Nat.blt a n) = ixN n (a : Int)
    unfold ixN
    rw [if_pos (Int.natCast_nonneg a), blt_eq]
    by_cases q : a < n
    · rw [decide_eq_true q, if_pos (by omega)]; rfl
    · rw [decide_eq_false q, if_neg (by omega)]
  | negSucc a => rfl
def xPutK (o i v : U) (h : List UO) : Rs Unit := U.casesOn o (kPut o i v h) (fun _ => kPut o i v h) (fun _ => kPut o i v h) (fun _ => kPut o i v h) (fun _ => kPut o i v h) (fun _ => kPut o i v h) (fun _ => kPut o i v h) (fun _ => kPut o i v h) (fun _ _ => kPut o i v h)
  (fun p => U.casesOn i (kPut o i v h) (fun _ => kPut o i v h) (fun k => Option.rec .no (fun q => UO.casesOn q (fun xs => Option.rec .no (fun j => .ok () (setA h (.lst (setA xs v j)) p)) (ixA (lenA xs) k)) (fun _ => .no) (fun _ => .no) (fun _ _ => .no)) (getA h p)) (fun _ => kPut o i v h) (fun _ => kPut o i v h) (fun _ => kPut o i v h) (fun _ => kPut o i v h) (fun _ => kPut o i v h) (fun _ _ => kPut o i v h) (fun _ => kPut o i v h) (fun _ => (kPut o i v h)) (fun _ => (kPut o i v h))) (fun _ => (kPut o i v h)) (fun _ => (kPut o i v h))
theorem xPutK_eq : xPutK = kPut := by
  funext o i v h
  cases o with
  | ref p =>
    cases i with
    | int k =>
      show Option.rec _ _ (getA h p) = (match h[p]? with | some (.lst xs) => (match ixN xs.length k with | some j => (Rs.ok () (h.set p (.lst (xs.set j v))) : Rs Unit) | none => .no) | _ => .no)
      rw [getA_eq]
      cases h[p]? with
      | none => rfl
      | some q => cases q with
        | lst xs =>
          show (Option.rec _ _ (ixA (lenA xs) k) : Rs Unit) = _
          rw [ixA_eq, lenA_eq]
          dsimp only
          cases ixN xs.length k with
          | none => rfl
          | some j => show Rs.ok () (setA h (.lst (setA xs v j)) p) = _; rw [setA_eq, setA_eq]
        | _ => rfl
    | _ => rfl
  | _ => rfl
/-! #### statements -/
def xSet (i : Nat) (f : Ev) : Sv := fun us h => Rs.rec (fun u h1 => .nx (setA us (some u) i) h1) (fun e h1 => .ex e us h1) .no (f us h)
theorem xSet_eq : xSet = gSet := by
  funext i f us h
  show Rs.rec _ _ _ (f us h) = (f us h).then us _
  cases f us h with
  | ok u h1 => show Rt.nx _ _ = _; rw [setA_eq]; rfl
  | ex _ _ => rfl
  | no => rfl
def xSeq (a b : Sv) : Sv := fun us h => Rt.rec (fun us1 h1 => b us1 h1) (fun u h => .bk u h) (fun u h => .ct u h) (fun u h => .rt u h) (fun e u h => .ex e u h) .no (a us h)
theorem xSeq_eq : xSeq = gSeq := by
  funext a b us h
  show Rt.rec _ _ _ _ _ _ (a us h) = gSeq a b us h
  unfold gSeq
  cases a us h <;> rfl
def xEx (f : Ev) : Sv := fun us h => Rs.rec (fun _ h1 => .nx us h1) (fun e h1 => .ex e us h1) .no (f us h)
theorem xEx_eq : xEx = gEx := by
  funext f us h
  show Rs.rec _ _ _ (f us h) = (f us h).then us _
  cases f us h <;> rfl
def xRet (f : Ev) : Sv := fun us h => Rs.rec (fun u h1 => .rt u h1) (fun e h1 => .ex e us h1) .no (f us h)
theorem xRet_eq : xRet = gRet := by
  funext f us h
  show Rs.rec _ _ _ (f us h) = (f us h).then us _
  cases f us h <;> rfl
def xIf (c : EvB) (a b : Sv) : Sv := fun us h => Rs.rec (fun b1 h1 => Bool.rec (b us h1) (a us h1) b1) (fun e h1 => .ex e us h1) .no (c us h)
theorem xIf_eq : xIf = gIf := by
  funext c a b us h
  show Rs.rec _ _ _ (c us h) = (c us h).then us _
  cases c us h with
  | ok b1 h1 => cases b1 <;> rfl
  | ex _ _ => rfl
  | no => rfl
def xPut (fo fi fv : Ev) : Sv := fun us h => Rs.rec (fun v h1 => Rs.rec (fun o h2 => Rs.rec (fun i h3 => Rs.rec (fun _ h4 => .nx us h4) (fun e h4 => .ex e us h4) .no (xPutK o i v h3)) (fun e h1 => .ex e us h1) .no (fi us h2)) (fun e h1 => .ex e us h1) .no (fo us h1)) (fun e h1 => .ex e us h1) .no (fv us h)
theorem xPut_eq : xPut = gPut := by
  funext fo fi fv us h
  unfold xPut gPut
  rw [xPutK_eq]
  cases fv us h with
  | ok v h1 =>
    show Rs.rec _ _ _ (fo us h1) = (fo us h1).then us _
    cases fo us h1 with
    | ok o h2 =>
      show Rs.rec _ _ _ (fi us h2) = (fi us h2).then us _
      cases fi us h2 with
      | ok i h3 =>
        show Rs.rec _ _ _ (kPut o i v h3) = (kPut o i v h3).then us _
        cases kPut o i v h3 <;> rfl
      | ex _ _ => rfl
      | no => rfl
    | ex _ _ => rfl
    | no => rfl
  | ex _ _ => rfl
  | no => rfl
def xName (i : Nat) : Tgt := fun u us => some (setA us (some u) i)
theorem xName_eq : xName = aName := by
  funext i u us
  show some (setA us (some u) i) = some (us.set i (some u))
  rw [setA_eq]
def forLA (tg : Tgt) (body : Sv) (xs : List U) : Lo → List UO → Rt := List.rec (fun us h => .nx us h) (fun x _ ih us h => Option.rec .no (fun us1 => Rt.rec (fun u h => ih u h) (fun u h => .nx u h) (fun u h => ih u h) (fun u h => .rt u h) (fun e u h => .ex e u h) .no (body us1 h)) (tg x us)) xs
theorem forLA_eq (tg : Tgt) (body : Sv) : ∀ xs us h, forLA tg body xs us h = forL tg body xs us h
  | [], _, _ => rfl
  | x :: r, us, h => by
    unfold forL
    show (Option.rec _ _ (tg x us) : Rt) = _
    cases tg x us with
    | none => rfl
    | some us1 =>
      show (Rt.rec _ _ _ _ _ _ (body us1 h) : Rt) = _
      dsimp only
      cases body us1 h with
      | nx u h => exact forLA_eq tg body r u h
      | ct u h => exact forLA_eq tg body r u h
      | _ => rfl
def forDA (it : Nat → List UO → Option (Option U)) (tg : Tgt) (body : Sv) (n : Nat) : Nat → Lo → List UO → Rt := Nat.rec (fun _ _ _ => .no) (fun _ ih i us h => Option.rec .no (fun o => Option.rec (.nx us h) (fun x => Option.rec .no (fun us1 => Rt.rec (fun u h => ih (Nat.succ i) u h) (fun u h => .nx u h) (fun u h => ih (Nat.succ i) u h) (fun u h => .rt u h) (fun e u h => .ex e u h) .no (body us1 h)) (tg x us)) o) (it i h)) n
theorem forDA_eq (it : Nat → List UO → Option (Option U)) (tg : Tgt) (body : Sv) : ∀ n i us h, forDA it tg body n i us h = forD it tg body n i us h
  | 0, _, _, _ => rfl
  | n + 1, i, us, h => by
    unfold forD
    show (Option.rec _ _ (it i h) : Rt) = _
    cases it i h with
    | none => rfl
    | some o =>
      cases o with
      | none => rfl
      | some x =>
        show (Option.rec _ _ (tg x us) : Rt) = _
        dsimp only
        cases tg x us with
        | none => rfl
        | some us1 =>
          show (Rt.rec _ _ _ _ _ _ (body us1 h) : Rt) = _
          dsimp only
          cases body us1 h with
          | nx u h => exact forDA_eq it tg body n (i + 1) u h
          | ct u h => exact forDA_eq it tg body n (i + 1) u h
          | _ => rfl
def xFor (fi : EvI) (tg : Tgt) (body : Sv) : Sv := fun us h => Rs.rec (fun s h1 => Src.rec (fun xs => forLA tg body xs us h1) (fun it => forDA it tg body 100000 0 us h1) s) (fun e h1 => .ex e us h1) .no (fi us h)
theorem xFor_eq : xFor = gFor := by
  funext fi tg body us h
  show Rs.rec _ _ _ (fi us h) = (fi us h).then us _
  cases fi us h with
  | ok s h1 => cases s with
    | fix xs => exact forLA_eq tg body xs us h1
    | dyn it => exact forDA_eq it tg body 100000 0 us h1
  | ex _ _ => rfl
  | no => rfl
def bRs {α : Type} (r : Rs α) (k : α → List UO → Rs (List U)) : Rs (List U) := Rs.rec (fun a h => k a h) (fun _ _ => .no) .no r
def lcLA (tg : Tgt) (tests : EvB) (elt : Ev) (us : Lo) (xs : List U) : List UO → Rs (List U) := List.rec (fun h => .ok [] h) (fun x _ ih h => Option.rec .no (fun us1 => bRs (tests us1 h) fun b h1 => Bool.rec (ih h1) (bRs (elt us1 h1) fun y h2 => bRs (ih h2) fun ys h3 => .ok (y :: ys) h3) b) (tg x us)) xs
theorem lcLA_eq (tg : Tgt) (tests : EvB) (elt : Ev) (us : Lo) : ∀ xs h, lcLA tg tests elt us xs h = lcL tg tests elt us xs h
  | [], _ => rfl
  | x :: r, h => by
    unfold lcL
    show (Option.rec _ _ (tg x us) : Rs (List U)) = _
    cases tg x us with
    | none => rfl
    | some us1 =>
      show bRs (tests us1 h) _ = _
      unfold bRs
      dsimp only
      cases tests us1 h with
      | ok b h1 =>
        cases b with
        | false => exact lcLA_eq tg tests elt us r h1
        | true =>
          show (Rs.rec _ _ _ (elt us1 h1) : Rs (List U)) = _
          dsimp only
          cases elt us1 h1 with
          | ok y h2 =>
            show (Rs.rec _ _ _ (lcLA tg tests elt us r h2) : Rs (List U)) = _
            rw [lcLA_eq tg tests elt us r h2]
            dsimp only
            cases lcL tg tests elt us r h2 <;> rfl
          | ex _ _ => rfl
          | no => rfl
      | ex _ _ => rfl
      | no => rfl
def lcDA (it : Nat → List UO → Option (Option U)) (tg : Tgt) (tests : EvB) (elt : Ev) (us : Lo) (n : Nat) : Nat → List UO → Rs (List U) := Nat.rec (fun _ _ => .no) (fun _ ih i h => Option.rec .no (fun o => Option.rec (.ok [] h) (fun x => Option.rec .no (fun us1 => bRs (tests us1 h) fun b h1 => Bool.rec (ih (Nat.succ i) h1) (bRs (elt us1 h1) fun y h2 => bRs (ih (Nat.succ i) h2) fun ys h3 => .ok (y :: ys) h3) b) (tg x us)) o) (it i h)) n
theorem lcDA_eq (it : Nat → List UO → Option (Option U)) (tg : Tgt) (tests : EvB) (elt : Ev) (us : Lo) : ∀ n i h, lcDA it tg tests elt us n i h = lcD it tg tests elt us n i h
  | 0, _, _ => rfl
  | n + 1, i, h => by
    unfold lcD
    show (Option.rec _ _ (it i h) : Rs (List U)) = _
    cases it i h with
    | none => rfl
    | some o =>
      cases o with
      | none => rfl
      | some x =>
        show (Option.rec _ _ (tg x us) : Rs (List U)) = _
        dsimp only
        cases tg x us with
        | none => rfl
        | some us1 =>
          show bRs (tests us1 h) _ = _
          unfold bRs
          dsimp only
          cases tests us1 h with
          | ok b h1 =>
            cases b with
            | false => exact lcDA_eq it tg tests elt us n (i + 1) h1
            | true =>
              show (Rs.rec _ _ _ (elt us1 h1) : Rs (List U)) = _
              dsimp only
              cases elt us1 h1 with
              | ok y h2 =>
                show (Rs.rec _ _ _ (lcDA it tg tests elt us n (i + 1) h2) : Rs (List U)) = _
                rw [lcDA_eq it tg tests elt us n (i + 1) h2]
                dsimp only
                cases lcD it tg tests elt us n (i + 1) h2 <;> rfl
              | ex _ _ => rfl
              | no => rfl
          | ex _ _ => rfl
          | no => rfl
def wipeA (us : Lo) (vs : List Nat) : Lo := List.rec us (fun v _ ih => setA ih none v) vs
theorem wipeA_eq (us : Lo) : ∀ vs, wipeA us vs = wipeU us vs
  | [] => rfl
  | v :: vs => by
    show setA (wipeA us vs) none v = (wipeU us vs).set v none
    rw [setA_eq, wipeA_eq us vs]
def xLc (fi : EvI) (tg : Tgt) (tests : EvB) (elt : Ev) (vs : List Nat) : EvL := fun us h => Rs.rec (fun s h1 => bRs (Src.rec (fun xs => lcLA tg tests elt (wipeA us vs) xs h1) (fun it => lcDA it tg tests elt (wipeA us vs) 100000 0 h1) s) fun ys h2 => Bool.rec .no (.ok ys h2) (Nat.blt (lenA ys) 16777216)) (fun e h1 => .ex e h1) .no (fi us h)
theorem xLc_eq : xLc = eLc := by
  funext fi tg tests elt vs us h
  show Rs.rec _ _ _ (fi us h) = (fi us h).bind _
  cases fi us h with
  | ok s h1 =>
    show bRs _ _ = (match lcS tg tests elt (wipeU us vs) s h1 with | .ok ys h2 => (match Nat.blt ys.length 16777216 with | true => .ok ys h2 | false => .no) | _ => .no)
    have e : (Src.rec (fun xs => lcLA tg tests elt (wipeA us vs) xs h1) (fun it => lcDA it tg tests elt (wipeA us vs) 100000 0 h1) s : Rs (List U)) = lcS tg tests elt (wipeU us vs) s h1 := by
      rw [wipeA_eq]
      cases s with
      | fix xs => exact lcLA_eq tg tests elt _ xs h1
      | dyn it => exact lcDA_eq it tg tests elt _ 100000 0 h1
    rw [e]
    unfold bRs
    cases lcS tg tests elt (wipeU us vs) s h1 with
    | ok ys h2 =>
      show (Bool.rec _ _ (Nat.blt (lenA ys) 16777216) : Rs (List U)) = _
      rw [lenA_eq]
      dsimp only
      cases Nat.blt ys.length 16777216 <;> rfl
    | ex _ _ => rfl
    | no => rfl
  | ex _ _ => rfl
  | no => rfl
def xr1 (f : Ev) : EvI := fun us h => Rs.rec (fun u h1 => U.casesOn u .no (fun _ => .no) (fun n => Bool.rec .no (.ok (.fix (rgUA 0 n)) h1) (rgOk 0 n)) (fun _ => .no) (fun _ => .no) (fun _ => .no) (fun _ => .no) (fun _ => .no) (fun _ _ => .no) (fun _ => .no) (fun _ => .no) (fun _ => .no)) (fun e h1 => .ex e h1) .no (f us h)
theorem xr1_eq : xr1 = ir1 := by
  funext f us h
  show Rs.rec _ _ _ (f us h) = (f us h).bind _
  cases f us h with
  | ok u h1 => cases u with
    | int n =>
      show (Bool.rec _ _ (rgOk 0 n) : Rs Src) = (match rgOk 0 n with | true => .ok (.fix (rgU 0 n)) h1 | false => .no)
      rw [rgUA_eq]
      cases rgOk 0 n <;> rfl
    | _ => rfl
  | ex _ _ => rfl
  | no => rfl
/-! #### tests -/
def xB (f : Ev) : EvB := fun us h => Rs.rec (fun u h1 => U.casesOn u .no (fun c => .ok c h1) (fun _ => .no) (fun _ => .no) (fun _ => .no) (fun _ => .no) (fun _ => .no) (fun _ => .no) (fun _ _ => .no) (fun _ => .no) (fun _ => .no) (fun _ => .no)) (fun e h1 => .ex e h1) .no (f us h)
theorem xB_eq : xB = bE := by
  funext f us h
  show Rs.rec _ _ _ (f us h) = (f us h).bind _
  cases f us h with
  | ok u h1 => cases u <;> rfl
  | ex _ _ => rfl
  | no => rfl
def xAnd (f g : EvB) : EvB := fun us h => Rs.rec (fun c h1 => Bool.rec (.ok false h1) (g us h1) c) (fun e h1 => .ex e h1) .no (f us h)
def xOr (f g : EvB) : EvB := fun us h => Rs.rec (fun c h1 => Bool.rec (g us h1) (.ok true h1) c) (fun e h1 => .ex e h1) .no (f us h)
def xNot (f : EvB) : EvB := fun us h => Rs.rec (fun c h1 => .ok (Bool.rec true false c) h1) (fun e h1 => .ex e h1) .no (f us h)
theorem xAnd_eq : xAnd = bAnd := by
  funext f g us h
  show Rs.rec _ _ _ (f us h) = (f us h).bind _
  cases f us h with
  | ok c h1 => cases c <;> rfl
  | ex _ _ => rfl
  | no => rfl
theorem xOr_eq : xOr = bOr := by
  funext f g us h
  show Rs.rec _ _ _ (f us h) = (f us h).bind _
  cases f us h with
  | ok c h1 => cases c <;> rfl
  | ex _ _ => rfl
  | no => rfl
theorem xNot_eq : xNot = bNot := by
  funext f us h
  show Rs.rec _ _ _ (f us h) = (f us h).bind _
  cases f us h with
  | ok c h1 => cases c <;> rfl
  | ex _ _ => rfl
  | no => rfl
/-! #### calls of defs -/
def frzA (n : Nat) (h : List UO) : U → Option U := Nat.rec (fun _ => none) (fun _ ih u => U.casesOn u (some u) (fun _ => some u) (fun _ => some u) (fun _ => some u) (fun _ => some u)
  (fun xs => Option.rec none (fun ys => some (.tup ys)) (omapA ih xs)) (fun xs => Option.rec none (fun ys => some (.fl ys)) (omapA ih xs)) (fun _ => some u) (fun c xs => Option.rec none (fun ys => some (.ob c ys)) (omapA ih xs))
  (fun i => Option.rec none (fun o => UO.casesOn o (fun xs => Option.rec none (fun ys => some (.fl ys)) (omapA ih xs)) (fun _ => none) (fun _ => none) (fun _ _ => none)) (getA h i)) (fun xs => Option.rec none (fun ys => some (.tx ys)) (omapA ih xs)) (fun _ => (some u))) n
theorem frzA_eq (h : List UO) : ∀ n, frzA n h = frz n h
  | 0 => by funext u; unfold frz; rfl
  | n + 1 => by
    funext u
    have ih := frzA_eq h n
    have e : frzA (n + 1) h u = U.casesOn u (some u) (fun _ => some u) (fun _ => some u) (fun _ => some u) (fun _ => some u)
      (fun xs => Option.rec none (fun ys => some (.tup ys)) (omapA (frzA n h) xs)) (fun xs => Option.rec none (fun ys => some (.fl ys)) (omapA (frzA n h) xs)) (fun _ => some u) (fun c xs => Option.rec none (fun ys => some (.ob c ys)) (omapA (frzA n h) xs))
      (fun i => Option.rec none (fun o => UO.casesOn o (fun xs => Option.rec none (fun ys => some (.fl ys)) (omapA (frzA n h) xs)) (fun _ => none) (fun _ => none) (fun _ _ => none)) (getA h i)) (fun xs => Option.rec none (fun ys => some (.tx ys)) (omapA (frzA n h) xs)) (fun _ => (some u)) := rfl
    rw [e, ih]
    unfold frz
    cases u with
    | tup xs => dsimp only; rw [omapA_eq]; cases mapO (frz n h) xs <;> rfl
    | fl xs => dsimp only; rw [omapA_eq]; cases mapO (frz n h) xs <;> rfl
    | ob c xs => dsimp only; rw [omapA_eq]; cases mapO (frz n h) xs <;> rfl
    | tx xs => dsimp only; rw [omapA_eq]; cases mapO (frz n h) xs <;> rfl
    | ref i =>
      dsimp only
      rw [getA_eq]
      cases h[i]? with
      | none => rfl
      | some o => cases o with
        | lst xs => dsimp only; rw [omapA_eq]; cases mapO (frz n h) xs <;> rfl
        | _ => rfl
    | _ => rfl
def pureA (n : Nat) : U → Bool := Nat.rec (fun _ => false) (fun _ ih u => U.casesOn u true (fun _ => true) (fun _ => true) (fun _ => true) (fun _ => true) (fun xs => allA ih xs) (fun xs => allA ih xs) (fun _ => true) (fun _ xs => allA ih xs) (fun _ => false) (fun xs => allA ih xs) (fun _ => true)) n
theorem pureA_eq : ∀ n, pureA n = pureU n
  | 0 => by funext u; unfold pureU; rfl
  | n + 1 => by
    funext u
    have ih := pureA_eq n
    have e : pureA (n + 1) u = U.casesOn u true (fun _ => true) (fun _ => true) (fun _ => true) (fun _ => true) (fun xs => allA (pureA n) xs) (fun xs => allA (pureA n) xs) (fun _ => true) (fun _ xs => allA (pureA n) xs) (fun _ => false) (fun xs => allA (pureA n) xs) (fun _ => true) := rfl
    rw [e, ih]
    unfold pureU
    cases u with
    | tup xs => exact allA_eq _ _
    | fl xs => exact allA_eq _ _
    | ob c xs => exact allA_eq _ _
    | tx xs => exact allA_eq _ _
    | _ => rfl
def finA (r : Rt) : Rg := Rt.rec (fun _ _ => .ok .non) (fun _ _ => .no) (fun _ _ => .no) (fun u h => Option.rec .no (fun u' => .ok u') (frzA 8 h u)) (fun e us h => fin (.ex e us h)) .no r
theorem finA_eq : finA = fin := by
  funext r
  cases r with
  | rt u h =>
    show Option.rec _ _ (frzA 8 h u) = (match frz 8 h u with | some u' => Rg.ok u' | none => .no)
    rw [frzA_eq]
    cases frz 8 h u <;> rfl
  | _ => rfl
def startA (n : Nat) (us : List U) : Lo := List.rec (fun n => Nat.rec [] (fun _ ih => none :: ih) n) (fun u _ ih n => some u :: ih (Nat.pred n)) us n
theorem repl_A : ∀ n : Nat, (Nat.rec [] (fun _ ih => none :: ih) n : Lo) = List.replicate n none
  | 0 => rfl
  | n + 1 => by
    show none :: _ = _
    rw [repl_A n]
    rfl
theorem startA_eq : ∀ (us : List U) (n : Nat), startA n us = startU n us
  | [], n => by
    show (Nat.rec [] (fun _ ih => none :: ih) n : Lo) = _
    rw [repl_A]
    rfl
  | u :: r, n => by
    show some u :: startA (Nat.pred n) r = _
    rw [startA_eq r]
    unfold startU
    rw [List.length_cons, List.map_cons, List.cons_append]
    congr 3
    rw [Nat.pred_eq_sub_one]
    omega
def xrunG (n : Nat) (body : Sv) : Fg := fun us => finA (body (startA n us) [])
theorem xrunG_eq : xrunG = runG := by
  funext n body us
  show finA (body (startA n us) []) = fin (body (startU n us) [])
  rw [finA_eq, startA_eq]
def xrunH (n : Nat) (body : Sv) : Fh := fun us h => finH (body (startA n us) h)
theorem xrunH_eq : xrunH = runH := by
  funext n body us h
  show finH (body (startA n us) h) = finH (body (startU n us) h)
  rw [startA_eq]
def xCallG (n : Nat) (f : Fg) (fa : EvA) : Ev := fun us h => Rs.rec (fun as h1 => Bool.rec .no (Rg.rec (fun u => .ok u h1) (fun e => .ex e h1) .no (f as)) (allA (pureA 10) as && Nat.beq (lenA as) n)) (fun e h1 => .ex e h1) .no (fa us h)
theorem xCallG_eq : xCallG = eCallG := by
  funext n f fa us h
  show Rs.rec _ _ _ (fa us h) = (fa us h).bind _
  cases fa us h with
  | ok as h1 =>
    show Bool.rec _ _ (allA (pureA 10) as && Nat.beq (lenA as) n) = (match as.length == n && as.all (pureU 10) with | true => (match f as with | .ok u => (Rs.ok u h1 : Rs U) | .ex e => .ex e h1 | .no => .no) | false => .no)
    rw [allA_eq, lenA_eq, pureA_eq, Bool.and_comm]
    rw [show Nat.beq as.length n = (as.length == n) from beqA as.length n]
    cases (as.length == n && as.all (pureU 10)) with
    | false => rfl
    | true => show (Rg.rec _ _ _ (f as) : Rs U) = _; cases f as <;> rfl
  | ex _ _ => rfl
  | no => rfl
def xCallH (n : Nat) (f : Fh) (fa : EvA) : Ev := fun us h => Rs.rec (fun as h1 => Bool.rec .no (f as h1) (Nat.beq (lenA as) n)) (fun e h1 => .ex e h1) .no (fa us h)
theorem xCallH_eq : xCallH = eCallH := by
  funext n f fa us h
  show Rs.rec _ _ _ (fa us h) = (fa us h).bind _
  cases fa us h with
  | ok as h1 =>
    show Bool.rec _ _ (Nat.beq (lenA as) n) = (match as.length == n with | true => f as h1 | false => .no)
    rw [lenA_eq]
    rw [show Nat.beq as.length n = (as.length == n) from beqA as.length n]
    cases (as.length == n) <;> rfl
  | ex _ _ => rfl
  | no => rfl
end
end Fn
/-! own exceptions: raise, try; the law's top -/
namespace Fn
open PySem L2 PySem.Spec PyProof.Rows
/-- what the law's end asks -/
def topSp (K : PySem.W.Frag) : Sp := fun vs H Q _ => ∃ (a : Addr) (ns : List Int), vs = [.ref a] ∧ Only H ∧ SqL K H a (ns.map V.int) ∧ ns.length ≤ 63 ∧ ∀ H', Q (.bl true) H'
theorem at_topG {K : PySem.W.Frag} {G : Cfg} (hG : G.K = K) {H : Hp} {a : Addr} {ns : List Int} {F : Fg} {Q : VK} {E : XK} (hO : Only H) (hS : SqL K H a (ns.map V.int)) (h : F [.scr ns] = .ok (.bl true)) (hq : ∀ H', Q (.bl true) H') :
    fnG G 1 F [.ref a] H Q E := by
  have r : ∀ w : Wd, w.H = H → R G w (.scr ns) (.ref a) := by
    rintro w rfl
    rcases hS with (h1 | h1) | h1
    · rcases hO a with h2 | ⟨o, xs, h2⟩
      · rw [h2] at h1; cases h1
      · rw [h2] at h1; cases h1
    · exact .scr (.inl h1)
    · exact .scr (.inr fun H' => .inr (hG ▸ h1))
  refine ⟨rfl, [.scr ns], ⟨fun _ => False, [], [], H⟩, rfl, rfl, rfl, ⟨rfl, .nil, (fun a h => nomatch h), (fun a h => h.elim), (fun i a o h _ => by simp at h)⟩, .cons (r _ rfl) .nil, ?_⟩
  rw [h]
  intro w' v _ _ _ _ _ r
  cases r
  exact hq _
theorem ok_top {P : Program} {w : World} {K : PySem.W.Frag} {mg : Str → Option Value} {base : Heap} {CX : CXT} {k : Nat} {f : Addr} {fd : FuncData} {ps : List Str} {G : Cfg} {F : Fg} (hG : G.K = K) (h : ∀ ns, F [.scr ns] = .ok (.bl true))
    (o : FnOk P w K mg base CX k f fd ps (fnG G 1 F)) : FnOk P w K mg base CX k f fd ps (topSp K) :=
  o.imp fun vs H Q E ⟨a, ns, e, hO, hS, hl, hq⟩ => by
    subst e
    exact at_topG hG hO hS (h ns) hq
/-! ### classes -/
abbrev veB : List Value := [.type "ValueError", .type "Exception", .type "BaseException", .type "object"]
structure XcC (K : PySem.W.Frag) (mg : Str → Option Value) (x : Str) (C : Addr) : Prop where
  gP : mg x = some (.ref C)
  kP : PySem.W.keepIn K (.ref C) = true
  bP : PySem.W.subIn K (.ref C) (.type "BaseException") = some true
  tP : PySem.W.typeIn K (.ref C) = some (.type "type")
  iP : PySem.W.isClsIn K C = true
theorem kit_of {K : PySem.W.Frag} {mg : Str → Option Value} {x : Str} {C : Addr} {t : Value} {b : Bool} (F : XcC K mg x C) (h : PySem.W.subIn K t (.ref C) = some b) : PySem.W.kitCls K t (.ref C) = some b := by
  have h2 : (PySem.W.clsIn K C).isSome = true := F.iP
  have e2 : ((PySem.W.clsIn K C).isSome && PySem.W.typeIn K (.ref C) == some (.type "type")) = true := by
    rw [h2, F.tP] <;> rfl
  show (if ((PySem.W.clsIn K C).isSome && PySem.W.typeIn K (.ref C) == some (.type "type")) = true then PySem.W.subIn K t (.ref C) else none) = some b
  rw [if_pos e2]
  exact h
theorem kit1_of {K : PySem.W.Frag} {mg : Str → Option Value} {x : Str} {C D : Addr} {b : Bool} (F : XcC K mg x C) (h : PySem.W.subIn K (.ref D) (.ref C) = some b) (hs : PySem.W.subIn K (.ref D) (.ref D) = some true) : PySem.W.kitOne K (.ref D) (.ref C) = some b := by
  unfold PySem.W.kitOne
  split
  · rename_i q
    have e : D = C := by
      have := eq_of_beq q
      injection this
    subst e
    exact hs.symm.trans h
  · exact kit_of F h
theorem exm_of2 {K : PySem.W.Frag} {mg : Str → Option Value} {x : Str} {C : Addr} {t : Value} {b : Bool} (F : XcC K mg x C) (h : PySem.W.subIn K t (.ref C) = some b) : PySem.W.exmOne K t (.ref C) = some b := by
  have e1 : (PySem.W.subIn K (.ref C) (.type "BaseException") == some true) = true := by rw [F.bP] <;> rfl
  unfold PySem.W.exmOne
  rw [if_pos e1]
  exact kit_of F h
/-! ### raise -/
def gRaise (c : Nat) : Sv := fun us h => .ex ⟨c, []⟩ us h
theorem s_raise {X : Cx} {G : Cfg} {W : WX} {x m : Str} {c j : Nat} {p p2 pos pos' : Pos} (hc : X.calm = true) (tk : Takes X W) (F : XcC X.K X.mg x (G.cl c)) (q : PySem.W.excIn X.K (G.cl c) veB "ValueError.__new__" = true) (hg : Gl X x) (hdb : (x == ("__debug__" : Str)) = false := by decide) :
    PS X (.Raise (some (.Call (.Name x p) [.Constant (.str m) j p2] [] pos)) none pos') (tS G (gRaise c) W) :=
  PS.imp (ps_raise hc tk (pmk_own PySem.F.excBase_ValueError q F.gP F.kP (raises_own F.bP F.tP) hg hdb)) fun D σ _ ⟨us, w, e, m, sl, h⟩ => by
    subst e
    exact h w σ _ none rfl (Ext.refl w) m sl ⟨rfl, rfl⟩
/-! ### try: .. except C as e: return .. -/
/-- new tuples that nobody holds -/
inductive NewT : Hp → Hp → Prop
  | refl (H : Hp) : NewT H H
  | step {H H' : Hp} {p : Addr} {vs : List V} : NewT H H' → H' p = none → NewT H (upd H' p (.tup vs))
theorem NewT.trans {H H1 H2 : Hp} (a : NewT H H1) (b : NewT H1 H2) : NewT H H2 := by
  induction b with
  | refl => exact a
  | step _ h ih => exact .step ih h
theorem NewT.wd {G : Cfg} {w : Wd} {H' : Hp} (h : NewT w.H H') (m : Sm G w) : ∃ w' : Wd, w'.H = H' ∧ w'.h = w.h ∧ Ext w w' ∧ Sm G w' := by
  induction h with
  | refl => exact ⟨w, rfl, rfl, Ext.refl w, m⟩
  | @step H1 p vs _ hp ih =>
    obtain ⟨w1, rfl, h1, e1, m1⟩ := ih
    exact ⟨w1.new p (.tup vs), rfl, h1, e1.trans (Ext.new hp), m1.new hp⟩
def gTryR (i : Nat) (catches ret : Nat → Option Bool) (body : Sv) : Sv := fun us h => match body us h with
  | .ex e us1 h1 => (match catches e.c with
    | some true => (match ret e.c, e.fs, Nat.blt i us1.length with | some b, [], true => .rt (.bl b) h1 | _, _, _ => .no)
    | some false => .ex e us1 h1
    | none => .no)
  | r => r
theorem s_tryR {X : Cx} {G : Cfg} {W : WX} {x n : Str} {c : Value} {i : Nat} {body : List Stmt} {e : Expr} {np pos pos' rp : Pos} {catches ret : Nat → Option Bool} {gb : Sv}
    (hs : X.stack = X.env :: X.outer) (hf : X.env.frame = some X.env.locals) (hN : X.N.Nodup) (hi : X.N[i]? = some n) (hln : X.env.kindOf n = some .local) (hc : Names X x c) (tk : Takes X W)
    (hcat : ∀ k b, catches k = some b → PySem.W.exmOne X.K (.ref (G.cl k)) c = some b)
    (hb : ∀ (W' : WX) (pn : List (Addr × Obj)) (xe : Value → Shared → Prop), Takes (X.tr pn xe) W' → PassesOwn (model X.prog X.w) X.A X.env xe → PSs (X.tr pn xe) body (tS G gb W'))
    (hsu : ∀ (k : Nat) (b : Bool) (a : Addr) (oe : Obj) (pn : List (Addr × Obj)), ret k = some b → Zc (.ref (G.cl k)) none oe → (∃ vs, oe.data = .fields vs) → PE (X.suite a ((a, oe) :: pn)) e (fun σ H Q => σ[i]? = some (some (.ref a)) ∧ ∀ H', NewT H H' → Q (.bl b) H')) :
    PS X (.Try body [.ExceptHandler (some (.Name x np)) (some n) [.Return (some e) rp] pos'] [] [] pos) (tS G (gTryR i catches ret gb) W) :=
  PS.imp (ps_try_as (tb := fun W' => tS G gb W') (ts := fun a cls d D σ H => ∃ k b, cls = .ref (G.cl k) ∧ d = none ∧ ret k = some b ∧ σ[i]? = some (some (.ref a)) ∧ ∀ H', NewT H H' → D.rt (.bl b) H') (Wout := W) hs hf hN hi hln hc tk hb fun a oe cls d pn hz hfl => ⟨fun pins s σ H D I h => by
    obtain ⟨k, b, rfl, rfl, hr, hp, q⟩ := h
    exact (pss_one (ps_ret (hsu k b a oe pn hr hz hfl))).run pins s σ H D I ⟨hp, q⟩⟩) fun D σ _ ⟨us, w, e0, m, sl, h⟩ => by
    subst e0
    refine ⟨us, w, rfl, m, sl, ?_⟩
    unfold gTryR at h
    cases hq : gb us w.h with
    | nx _ _ => rw [hq] at h; exact h
    | bk _ _ => rw [hq] at h; exact h
    | ct _ _ => rw [hq] at h; exact h
    | rt _ _ => rw [hq] at h; exact h
    | no => rw [hq] at h; exact h
    | ex x1 us1 h1 =>
      rw [hq] at h
      dsimp only at h
      intro w' σ' cls d a e1 m1 sl1 rx
      subst a
      obtain ⟨xc, fs⟩ := x1
      split at h
      · rename_i hcs
        split at h
        · rename_i b h2 h3 h4
          dsimp only at h3
          subst h3
          obtain ⟨rfl, hd⟩ := rx
          have hd : d = none := hd
          subst hd
          have hl : i < σ'.length := by rw [← sl1.1]; exact Nat.le_of_ble_eq_true h4
          refine ⟨true, hcat _ _ hcs, fun _ a ha => ⟨xc, b, rfl, rfl, h2, List.getElem?_set_self hl, fun H' hN => let ⟨w'', x1, x2, x3, x4⟩ := hN.wd m1; x1 ▸ h w'' _ x2 (e1.trans x3) x4 (.bl b)⟩, (fun z => nomatch z)⟩
        · exact h.elim
      · rename_i hcs
        exact ⟨false, by rw [rx.1]; exact hcat _ _ hcs, (fun z => nomatch z), fun _ => h w' σ' cls d rfl e1 m1 sl1 rx⟩
      · exact h.elim
section
variable {X : Cx} {i : Nat} {a D : Addr} {oe : Obj} {pn : List (Addr × Obj)} {pos p : Pos} {e f : Expr} {b b' : Bool}
/-- the suite's value is known -/
def tP (i : Nat) (a : Addr) (b : Bool) : TE := fun σ H Q => σ[i]? = some (some (.ref a)) ∧ ∀ H', NewT H H' → Q (.bl b) H'
theorem p_one {op} (h : PE X e (tP i a b)) : PE X (.BoolOp op [e] pos) (tP i a b) := pe_one h
theorem p_and {rest : List Expr} {b'' : Bool} (eb : (b && b') = b'') (h : PE X e (tP i a b)) (h' : PE X (.BoolOp .And (f :: rest) pos) (tP i a b')) : PE X (.BoolOp .And (e :: f :: rest) pos) (tP i a b'') :=
  eb ▸ PE.imp (pe_and h h') fun σ _ Q ⟨hp, q⟩ => ⟨hp, fun H' hN => ⟨b, rfl, by
    cases b with
    | true => exact ⟨hp, fun H'' hN' => q H'' (hN.trans hN')⟩
    | false => exact q H' hN⟩⟩
theorem p_or {rest : List Expr} {b'' : Bool} (eb : (b || b') = b'') (h : PE X e (tP i a b)) (h' : PE X (.BoolOp .Or (f :: rest) pos) (tP i a b')) : PE X (.BoolOp .Or (e :: f :: rest) pos) (tP i a b'') :=
  eb ▸ PE.imp (pe_or h h') fun σ _ Q ⟨hp, q⟩ => ⟨hp, fun H' hN => ⟨b, rfl, by
    cases b with
    | false => exact ⟨hp, fun H'' hN' => q H'' (hN.trans hN')⟩
    | true => exact q H' hN⟩⟩
theorem p_not {b'' : Bool} (eb : (!b) = b'') (h : PE X e (tP i a b)) : PE X (.UnaryOp .Not e pos) (tP i a b'') :=
  eb ▸ PE.imp (pe_not h) fun σ _ Q ⟨hp, q⟩ => ⟨hp, fun H' hN => ⟨b, rfl, q H' hN⟩⟩
theorem p_isi {n x : Str} {C : Addr} {p1 p2 : Pos} (E : ExcC X.K D) (hz : Zc (.ref D) none oe) (hf : ∃ vs, oe.data = .fields vs) (F : XcC X.K X.mg x C) (hk : PySem.W.kitOne X.K (.ref D) (.ref C) = some b)
    (hg : Gl X "isinstance") (hm : X.mg "isinstance" = none) (hgT : Gl X x) (hN : X.N[i]? = some n) (hv : Vis X.env.scope n) (hd : (n == ("__debug__" : Str)) = false := by decide) (hdx : (x == ("__debug__" : Str)) = false := by decide) (hcd : (n == ("__classdict__" : Str)) = false := by decide)
    (na : starEach [.Name n p1, .Name x p2] X.env = (false, eval (.Name n p1) X.env) :: starEach [.Name x p2] X.env := by rfl) (nb : starEach [.Name x p2] X.env = (false, eval (.Name x p2) X.env) :: starEach [] X.env := by rfl) (hpl : (backTo pos (starEach [.Name x p2] X.env)).any (·.1) = false := by rfl) :
    PE (X.suite a ((a, oe) :: pn)) (.Call (.Name "isinstance" p) [.Name n p1, .Name x p2] [] pos) (tP i a b) :=
  PE.imp (pe_callB (X := X.suite a ((a, oe) :: pn)) (call_isE E hz hf) hg hm (by decide +kernel) (pa_cons (pe_var (i := i) hN hv hd hcd) (pa_cons (pe_glob (v := .ref C) hgT F.gP rfl hdx) pa_nil nb) na) (he := na) (hpl := hpl)) fun σ H Q ⟨hp, q⟩ => by
    exact ⟨.ref a, hp, V.ref C, Value.ref C, b, rfl, (fun u r => by cases r; rfl), hk, q H (.refl H)⟩
/-- isinstance(e, (c1, c2, ..)), e the exception that the suite holds -/
def rIsET (K : PySem.W.Frag) (D a : Addr) : List V → Hp → VK → Prop := fun xs H Q => ∃ (tp : Addr) (cs : List V) (us : List Value) (b : Bool), xs = [.ref a, .ref tp] ∧ H tp = some (.tup cs) ∧ Paired ClsV cs us ∧ PySem.W.kitAny K (.ref D) us = some b ∧ Q (.bl b) H
theorem call_isET {X : Cx} {a D : Addr} {oe : Obj} {pn : List (Addr × Obj)} (C : ExcC X.K D) (hz : Zc (.ref D) none oe) (hf : ∃ vs, oe.data = .fields vs) : CallR (X.suite a ((a, oe) :: pn)) (.builtin "isinstance") (rIsET X.K D a) := by
  intro pins s σ H xs us Q I r h
  obtain ⟨tp, cs, ws, b, rfl, hT, k, e, q⟩ := h
  obtain ⟨u1, u2, rfl, r1, r2⟩ := vals2 r
  cases (show u2 = Value.ref tp from r2)
  cases (show u1 = Value.ref a from r1)
  obtain ⟨hget, _⟩ := I.pin (a, oe) (List.mem_append.mpr (.inl List.mem_cons_self))
  obtain ⟨vs, hv⟩ := hf
  have J : PySem.W.InstAt s.heap a oe D none := by
    obtain ⟨oc, od, oda, osl⟩ := oe
    obtain ⟨h1, h2⟩ := hz
    dsimp only at h1 h2 hv
    subst h1 h2 hv
    exact ⟨hget, rfl, rfl, trivial⟩
  obtain ⟨_, its, rv, o, h1, h2, n, h3⟩ := (show ObjOk X.prog X.w H s.heap tp (.tup cs) from I.hok tp _ hT)
  have e3 := ClsV.all k rv
  subst e3
  obtain ⟨oc, od, dt, sl⟩ := o
  simp only at h2 h3
  subst h2 h3
  exact PySem.W.kia_tup (PySem.W.handS_kitx_exc C.hg C.hk C.hs C.hd C.ha C.hn C.ht C.hm) I.kIn J h1 e (fun z => nomatch z) fun tk => ⟨.bl b, H, I.kept (t' := tk) fun _ _ z => z, rfl, q⟩
/-- the classes of a display, by their names -/
def tCls (cs : List V) : TA := fun _ H Q => Q cs H
theorem cl_nil {Y : Cx} : PA Y [] (tCls []) := PA.imp pa_nil fun _ _ _ h => h
theorem cl_cons {Y : Cx} {x : Str} {C : Addr} {p2 : Pos} {es : List Expr} {cs : List V} (hgT : Gl Y x) (hg : Y.mg x = some (.ref C)) (h : PA Y es (tCls cs)) (hs : starEach (.Name x p2 :: es) Y.env = (false, eval (.Name x p2) Y.env) :: starEach es Y.env := by rfl) (hdx : (x == ("__debug__" : Str)) = false := by decide) : PA Y (.Name x p2 :: es) (tCls (.ref C :: cs)) :=
  PA.imp (pa_cons (pe_glob (v := .ref C) hgT hg rfl hdx) h hs) fun _ _ _ q => q
theorem p_isiT {n : Str} {cs : List V} {us : List Value} {ts : List Expr} {x1 : Pos} {p1 : Pos} (E : ExcC X.K D) (hz : Zc (.ref D) none oe) (hf : ∃ vs, oe.data = .fields vs) (hcs : PA (X.suite a ((a, oe) :: pn)) ts (tCls cs)) (hsz : cs.length ≤ sizeLine) (hp : Paired ClsV cs us) (hk : PySem.W.kitAny X.K (.ref D) us = some b)
    (hg : Gl X "isinstance") (hm : X.mg "isinstance" = none) (hN : X.N[i]? = some n) (hv : Vis X.env.scope n) (hd : (n == ("__debug__" : Str)) = false := by decide) (hcd : (n == ("__classdict__" : Str)) = false := by decide)
    (na : starEach [.Name n p1, .Tuple ts x0 x1] X.env = (false, eval (.Name n p1) X.env) :: starEach [.Tuple ts x0 x1] X.env := by rfl) (nb : starEach [.Tuple ts x0 x1] X.env = (false, eval (.Tuple ts x0 x1) X.env) :: starEach [] X.env := by rfl) (hpl : (backTo pos (starEach [.Tuple ts x0 x1] X.env)).any (·.1) = false := by rfl) :
    PE (X.suite a ((a, oe) :: pn)) (.Call (.Name "isinstance" p) [.Name n p1, .Tuple ts x0 x1] [] pos) (tP i a b) :=
  PE.imp (pe_callB (X := X.suite a ((a, oe) :: pn)) (call_isET E hz hf) hg hm (by decide +kernel) (pa_cons (pe_var (i := i) hN hv hd hcd) (pa_cons (pe_tup hcs) pa_nil nb) na) (he := na) (hpl := hpl)) fun σ H Q ⟨hp2, q⟩ => by
    exact ⟨.ref a, hp2, hsz, fun tp htp => ⟨tp, cs, us, b, rfl, upd_same, hp, hk, q _ (.step (.refl H) htp)⟩⟩
end
/-! ### tuple(range(a, b, -1)) -/
section
variable {X : Cx} {a b c : Expr} {ta : TA} {p p2 pos pos2 : Pos}
def rgVC (i k : Int) (n : Nat) : List V := (List.range n).map fun m => V.int (i + (m : Nat) * k)
theorem vals_rgC {i k : Int} {n : Nat} {acc : Array Value} (h : ItemsOf (fun m v => ∃ t, v = .int (i + m * k) t) acc n) : Vals (rgVC i k n) acc.toList := by
  have e : acc.toList.length = n := by rw [Array.length_toList]; exact h.1
  unfold rgVC
  rw [← e]
  refine vals_of_get acc.toList _ fun j u hj => ?_
  obtain ⟨t, rfl⟩ := h.2 j u (by rw [← hj, Array.getElem?_toList])
  exact ⟨t, rfl⟩
theorem pe_tupRg3 (hc : X.calm = true) (hg : Gl X "tuple") (hm : X.mg "tuple" = none) (hgr : Gl X "range") (hmr : X.mg "range" = none) (ha : PA X [a, b, c] ta)
    (na : starEach [.Call (.Name "range" p2) [a, b, c] [] pos2] X.env = (false, eval (.Call (.Name "range" p2) [a, b, c] [] pos2) X.env) :: starEach [] X.env := by rfl)
    (hs : starEach [a, b, c] X.env = (false, eval a X.env) :: starEach [b, c] X.env := by rfl) (hpl : (backTo pos2 (starEach [b, c] X.env)).any (·.1) = false := by rfl) :
    PE X (.Call (.Name "tuple" p) [.Call (.Name "range" p2) [a, b, c] [] pos2] [] pos) (fun σ H Q => ta σ H fun vs H1 => ∃ (i j k : Int) (n : Nat), vs = [.int i, .int j, .int k] ∧ RgC i j k n ∧ n ≤ 2 ^ 24 ∧ ∀ q, H1 q = none → Q (.ref q) (upd H1 q (.tup (rgVC i k n)))) := by
  refine ⟨fun pins s σ H Q I h => ?_⟩
  refine Call_ (ld_blt I hg hm boot_tuple (PyProof.Rows.callWith_type1 (args_cons ?_ na) na))
  refine Call_ (ld_blt I hgr hmr boot_range (PyProof.Rows.callWith_type1 (thn (ha.run pos2 pins s σ H _ I h) fun us s1 ⟨vs, H1, I1, r1, q1⟩ => ?_) hs hpl))
  obtain ⟨i, j, k, n, e, ⟨c0, c1, c2, c3⟩, hn, q⟩ := q1
  subst e
  cases r1 with
  | cons r rr =>
    cases rr with
    | cons r' rr =>
      cases rr with
      | cons r'' rr =>
        cases rr
        obtain ⟨t, rfl⟩ := r
        obtain ⟨t', rfl⟩ := r'
        obtain ⟨t'', rfl⟩ := r''
        refine call_range_3 c0 ?_ (.inl (PyProof.noPylong_small c1))
        refine args_nil ?_
        have I2 : Inv X pins σ H1 { s1 with heap := s1.heap.push { cls := .type "range", data := .fields #[.int i t, .int j t', .int k t''] } } := I1.kept (t' := s1.toks) fun b o e => Heap.get?_push_of_some _ e
        refine call_tuple_range (n := n) (I2.ok.hd hc) (IsRange.new ..) c2 c3 hn fun h' tk acc hk hi => ?_
        have I3 : Inv X pins σ H1 { s1 with heap := h', toks := tk } := I1.kept fun b o e => hk b o (Heap.get?_push_of_some _ e)
        refine ⟨.ref h'.objs.size, upd H1 h'.objs.size (.tup (rgVC i k n)), I3.laid (t' := tk) (fun c o e => Heap.get?_push_of_some _ e) (Nat.le_refl _) (show ObjOk X.prog X.w _ _ _ (.tup (rgVC i k n)) from ⟨?_, acc.toList, vals_rgC hi, ?_⟩), rfl, q _ (I3.hok.fresh (Nat.le_refl _))⟩
        · unfold rgVC; rw [List.length_map, List.length_range, sizeLine_eq]; omega
        · rw [Array.toArray_toList]; exact IsTup.new _ _
end
def eTRg3 (fa : EvA) : Ev := fun us h => (fa us h).bind fun xs h1 => match xs with
  | [.int a, .int b, .int c] => (match (c == -1) && rgOk b a with | true => .ok (.tup (downU a b)) h1 | false => .no)
  | _ => .no
theorem f_tuprg3 {X : Cx} {G : Cfg} {W : WX} {a b c : Expr} {fa : EvA} {p p2 pos pos2 : Pos} (hc : X.calm = true) (hg : Gl X "tuple") (hm : X.mg "tuple" = none) (hgr : Gl X "range") (hmr : X.mg "range" = none) (ha : PA X [a, b, c] (tA G fa W))
    (na : starEach [.Call (.Name "range" p2) [a, b, c] [] pos2] X.env = (false, eval (.Call (.Name "range" p2) [a, b, c] [] pos2) X.env) :: starEach [] X.env := by rfl)
    (hs : starEach [a, b, c] X.env = (false, eval a X.env) :: starEach [b, c] X.env := by rfl) (hpl : (backTo pos2 (starEach [b, c] X.env)).any (·.1) = false := by rfl) :
    PE X (.Call (.Name "tuple" p) [.Call (.Name "range" p2) [a, b, c] [] pos2] [] pos) (tE G (eTRg3 fa) W) :=
  PE.imp (pe_tupRg3 hc hg hm hgr hmr ha na hs hpl) fun σ _ Q ⟨us, w, e, m, sl, h⟩ => by
    subst e
    refine ⟨us, w, rfl, m, sl, (Pt.bind (Rel := RL G) h).imp ?_⟩
    rintro vs H1 ⟨w1, as, rfl, e1, m1, r1, h1⟩
    split at h1
    · rename_i a b c
      cases r1 with
      | cons x1 t =>
        cases t with
        | cons x2 t =>
          cases t with
          | cons x3 t =>
            cases t
            cases x1
            cases x2
            cases x3
            split at h1
            · rename_i q
              rw [Bool.and_eq_true, beq_iff_eq] at q
              obtain ⟨rfl, q⟩ := q
              obtain ⟨b1, b2, b3, b4⟩ := rgOk_b q
              have hz : (a - b).toNat ≤ 2 ^ 24 := (rgOk_ok q).2.2.2.2
              refine ⟨a, b, -1, (a - b).toNat, rfl, RgC.neg b3 b4 b1 b2, hz, fun q hq => h1.newT m1 ?_ hq⟩
              unfold downU rgVC
              have go : ∀ l : List Nat, RL G w1 (l.map fun i => U.int (a + (i : Nat) * (-1))) (l.map fun m => V.int (a + (m : Nat) * (-1))) := fun l => by
                induction l with
                | nil => exact .nil
                | cons x r ih => exact .cons (.int _) ih
              exact go _
            · exact h1.elim
    · exact h1.elim
end Fn
/-! a dict comprehension with two for clauses -/
namespace Fn
open PySem L2 PySem.Spec PyProof.Rows
/-- one clause's turn, whatever is done with what it lets through -/
def clauseT (t : Expr) (ifs : List Expr) (p : Pos) (it : Value) (env : Env) (inner : Sem Unit) (c : Code) : Sem Fin := do
  standAt p
  match ← pyNext it with
  | none => pure (.done .next)
  | some v =>
    letOwnedTupleGo t it v
    assign t env v
    let mut ok := true
    for c in ifs do
      if ok then ok ← isTrue c env (eval c env)
    if ok then inner
    again c
abbrev testsM (ifs : List Expr) (env : Env) : Sem Bool := forIn ifs true fun c r => if r = true then do let ok ← isTrue c env (eval c env); pure (ForInStep.yield ok) else pure (ForInStep.yield r)
section
variable {prog : Program} {w : World} {A : Around} {R : Result → Shared → Prop} {kx vx t : Expr} {gens : List Comprehension} {scope : Scope} {pos : Pos} {ifs : List Expr} {p : Pos} {it acc : Value} {env : Env} {inner : Sem Unit} {depth : Nat}
theorem loopC {e : Expr} (he : e = .DictComp kx vx gens scope pos) (eq : compTurn e depth it acc env = clauseT t ifs p it env inner (.compLoop e depth it acc env)) (I : Nat → Shared → Prop) (NE : Value → Shared → Prop) (hNE : NE = notedBy (model prog w) A env fun x s' => R (.error x) s')
    (turn : ∀ n s, I n s → wpAny (model prog w) A (pyNext it) (fun r s1 => match r with
      | none => R (.ok .next) s1
      | some v => wpAny (model prog w) A (letOwnedTupleGo t it v) (fun _ s2 => wpAny (model prog w) A (assign t env v) (fun _ s3 => wpAny (model prog w) A (testsM ifs env) (fun ok s4 =>
          (ok = true → wpAny (model prog w) A inner (fun _ s5 => ∃ m, m < n ∧ I m s5) NE s4) ∧ (ok = false → ∃ m, m < n ∧ I m s4)) NE s3) NE s2) NE s1) NE s)
    (n : Nat) (s : Shared) (h : I n s) : codeAny (model prog w) A (.compLoop e depth it acc env) R s := by
  subst hNE he
  refine codeAny_loop rfl I (fun n s hI => ?_) n h
  show wpAny _ A ((compTurn (.DictComp kx vx gens scope pos) depth it acc env).onRaise (fun x => do noteFrame x env; theTreesLotGoes x)) _ _ s
  refine wpAny_noted ?_
  rw [eq]
  unfold clauseT
  have up : ∀ {B : Type} {m : Sem B} {Q Q' : B → Shared → Prop} {E : Value → Shared → Prop} {s : Shared}, wpAny (model prog w) A m Q E s → (∀ b s, Q b s → Q' b s) → wpAny (model prog w) A m Q' E s := fun h k => wpAny_mono h k fun _ _ z => z
  refine wpAny_bind (wpAny_standAt (wpAny_bind (up (turn n s hI) fun r s1 h1 => ?_)))
  cases r with
  | none => exact wpAny_pure h1
  | some v =>
    refine wpAny_bind (up h1 fun _ s2 h2 => ?_)
    refine wpAny_bind (up h2 fun _ s3 h3 => ?_)
    refine wpAny_bind (up h3 fun ok s4 h4 => ?_)
    cases ok with
    | false => exact wpAny_pure ⟨rfl, h4.2 rfl⟩
    | true => exact wpAny_bind (up (h4.1 rfl) fun _ s5 h5 => wpAny_pure ⟨rfl, h5⟩)
end
/-- the outer clause's turn -/
def clauseO (t : Expr) (ifs : List Expr) (p : Pos) (it : Value) (env : Env) (i1 : Expr) (e : Expr) (acc : Value) (c : Code) : Sem Fin := do
  standAt p
  match ← pyNext it with
  | none => pure (.done .next)
  | some v =>
    letOwnedTupleGo t it v
    assign t env v
    let mut ok := true
    for c in ifs do
      if ok then ok ← isTrue c env (eval c env)
    if ok then
      let x ← eval i1 env
      standAt i1.pos
      let x ← foldedSetIterable i1 env x
      let _ ← runOwn (.compStart e 1 (← holding [x] (pyIter x)) acc env) env
    again c
/-- what the inner one does -/
def innerPut (kx vx : Expr) (d : Addr) (env : Env) : Sem Unit := do
  let kv ← eval kx env
  let vv ← holding [kv] (eval vx env)
  standAt { kx.pos with endLine := vx.pos.endLine, endCol := vx.pos.endCol }
  holding [kv, vv] (dictSet d kv vv)
section
variable {prog : Program} {w : World} {A : Around} {R : Result → Shared → Prop} {kx vx t0 i0 t1 i1 : Expr} {ifs0 ifs1 : List Expr} {scope : Scope} {pos : Pos} {it acc : Value} {d : Addr} {env : Env} {s : Shared} {E : Value → Shared → Prop}
theorem turnIn : compTurn (.DictComp kx vx [⟨t0, i0, ifs0, 0⟩, ⟨t1, i1, ifs1, 0⟩] scope pos) 1 it (.ref d) env =
    clauseT t1 ifs1 i1.pos it env (innerPut kx vx d env) (.compLoop (.DictComp kx vx [⟨t0, i0, ifs0, 0⟩, ⟨t1, i1, ifs1, 0⟩] scope pos) 1 it (.ref d) env) := by rfl
theorem turnOut : compTurn (.DictComp kx vx [⟨t0, i0, ifs0, 0⟩, ⟨t1, i1, ifs1, 0⟩] scope pos) 0 it acc env =
    clauseO t0 ifs0 i0.pos it env i1 (.DictComp kx vx [⟨t0, i0, ifs0, 0⟩, ⟨t1, i1, ifs1, 0⟩] scope pos) acc (.compLoop (.DictComp kx vx [⟨t0, i0, ifs0, 0⟩, ⟨t1, i1, ifs1, 0⟩] scope pos) 0 it acc env) := by rfl
theorem loopO {gens : List Comprehension} {e t : Expr} {ifs : List Expr} {p : Pos} (he : e = .DictComp kx vx gens scope pos) (eq : compTurn e 0 it acc env = clauseO t ifs p it env i1 e acc (.compLoop e 0 it acc env)) (hs : ∀ x, foldedSetIterable i1 env x = pure x) (I : Nat → Shared → Prop) (NE : Value → Shared → Prop) (hNE : NE = notedBy (model prog w) A env fun x s' => R (.error x) s')
    (turn : ∀ n s, I n s → wpAny (model prog w) A (pyNext it) (fun r s1 => match r with
      | none => R (.ok .next) s1
      | some v => wpAny (model prog w) A (letOwnedTupleGo t it v) (fun _ s2 => wpAny (model prog w) A (assign t env v) (fun _ s3 => wpAny (model prog w) A (testsM ifs env) (fun ok s4 =>
          (ok = true → wpAny (model prog w) A (eval i1 env) (fun x s5 => wpAny (model prog w) A (pyIter x) (fun j s6 => codeAny (model prog w) A (.compStart e 1 j acc env) (fun r s' => match r with | .ok _ => ∃ m, m < n ∧ I m s' | .error _ => False) s6) NE s5) NE s4) ∧ (ok = false → ∃ m, m < n ∧ I m s4)) NE s3) NE s2) NE s1) NE s)
    (n : Nat) (s : Shared) (h : I n s) : codeAny (model prog w) A (.compLoop e 0 it acc env) R s := by
  subst hNE he
  refine codeAny_loop rfl I (fun n s hI => ?_) n h
  show wpAny _ A ((compTurn (.DictComp kx vx gens scope pos) 0 it acc env).onRaise (fun x => do noteFrame x env; theTreesLotGoes x)) _ _ s
  refine wpAny_noted ?_
  rw [eq]
  unfold clauseO
  have up : ∀ {B : Type} {m : Sem B} {Q Q' : B → Shared → Prop} {E : Value → Shared → Prop} {s : Shared}, wpAny (model prog w) A m Q E s → (∀ b s, Q b s → Q' b s) → wpAny (model prog w) A m Q' E s := fun h k => wpAny_mono h k fun _ _ z => z
  refine wpAny_bind (wpAny_standAt (wpAny_bind (up (turn n s hI) fun r s1 h1 => ?_)))
  cases r with
  | none => exact wpAny_pure h1
  | some v =>
    refine wpAny_bind (up h1 fun _ s2 h2 => ?_)
    refine wpAny_bind (up h2 fun _ s3 h3 => ?_)
    refine wpAny_bind (up h3 fun ok s4 h4 => ?_)
    cases ok with
    | false => exact wpAny_pure ⟨rfl, h4.2 rfl⟩
    | true =>
      refine wpAny_bind (up (h4.1 rfl) fun x s5 h5 => ?_)
      refine wpAny_bind (wpAny_standAt (wpAny_bind (wpAny_of_eq (hs x) ?_)))
      refine wpAny_bind (wpAny_holding (up h5 fun j s6 h6 => ?_))
      refine wpAny_bind (wpAny_runOwn ?_)
      rw [Around.mark_none]
      refine codeAny_mono h6 fun r s7 hr => ?_
      cases r with
      | error x => exact hr.elim
      | ok f =>
        first
          | exact wpAny_pure ⟨rfl, hr⟩
          | exact wpAny_bind (wpAny_pure (wpAny_pure ⟨rfl, hr⟩))
theorem put_ok {Q : Unit → Shared → Prop} (h : wpAny (model prog w) A (eval kx env) (fun a s1 => wpAny (model prog w) A (eval vx env) (fun b s2 => wpAny (model prog w) A (dictSet d a b) Q E s2) E s1) E s) : wpAny (model prog w) A (innerPut kx vx d env) Q E s := by
  unfold innerPut
  refine wpAny_bind (wpAny_mono h (fun a s1 h1 => ?_) fun _ _ z => z)
  refine wpAny_bind (wpAny_holding (wpAny_mono h1 (fun b s2 h2 => ?_) fun _ _ z => z))
  exact wpAny_bind (wpAny_standAt (wpAny_holding h2))
theorem start1 (h0 : codeAny (model prog w) A (.compLoop (.DictComp kx vx [⟨t0, i0, ifs0, 0⟩, ⟨t1, i1, ifs1, 0⟩] scope pos) 1 it acc env) R s)
    (h : wpAny (model prog w) A (pyIter it) (fun j s' => codeAny (model prog w) A (.compLoop (.DictComp kx vx [⟨t0, i0, ifs0, 0⟩, ⟨t1, i1, ifs1, 0⟩] scope pos) 1 j acc env) R s') (notedBy (model prog w) A env fun x s' => R (.error x) s') s) :
    codeAny (model prog w) A (.compStart (.DictComp kx vx [⟨t0, i0, ifs0, 0⟩, ⟨t1, i1, ifs1, 0⟩] scope pos) 1 it acc env) R s := by
  refine codeAny_of_tree ?_
  show wpAny _ _ ((compStart (.DictComp kx vx [⟨t0, i0, ifs0, 0⟩, ⟨t1, i1, ifs1, 0⟩] scope pos) 1 it acc env).onRaise (fun x => do noteFrame x env; standAt theWindowsPlace)) _ _ s
  refine wpAny_notedAt ?_
  unfold compStart
  show wpAny _ _ (ask >>= _) _ _ s
  refine wpAny_bind (wpAny_askSetting (wpAny_ite ?_))
  split
  · first
      | exact wpAny_bind (wpAny_pure (wpAny_pure ⟨rfl, h0⟩))
      | exact wpAny_pure ⟨rfl, h0⟩
  · have go : wpAny (model prog w) (A.under (.compStart (.DictComp kx vx [⟨t0, i0, ifs0, 0⟩, ⟨t1, i1, ifs1, 0⟩] scope pos) 1 it acc env)) (do standAt i1.pos; again (.compLoop (.DictComp kx vx [⟨t0, i0, ifs0, 0⟩, ⟨t1, i1, ifs1, 0⟩] scope pos) 1 (← pyIter it) acc env)) (fun fin s' => match fin with | .done f => R (.ok f) s' | .again c' => Code.quiet c' = true ∧ codeAny (model prog w) A c' R s') (notedBy (model prog w) A env fun x s' => R (.error x) s') s :=
      wpAny_bind (wpAny_standAt (wpAny_bind (wpAny_mono h (fun j s' h' => wpAny_pure ⟨rfl, h'⟩) fun _ _ z => z)))
    exact wpAny_bind (wpAny_rule go)
end
/-! ### the whole -/
/-- behind the inner tests -/
def dcPut (tk tv : TE) (D : Addr) (N1 : Hp → Prop) (b : Bool) (σ3 : L2.St) (H6 : Hp) : Prop := (b = false → N1 H6) ∧ (b = true → tk σ3 H6 fun y H7 => tv σ3 H7 fun z H8 => ∃ kvs k, y = kV k ∧ H8 D = some (.dK kvs) ∧ kvs.length < sizeLine ∧ N1 (upd H8 D (.dK (putK kvs k z))))
/-- the inner loop -/
def dcIn (g1 : TG) (tt1 : TT) (tk tv : TE) (vs1 : List Nat) (D : Addr) (N0 : Hp → Prop) (σ2 : L2.St) (J1 : It) (H4 : Hp) : Prop := ∃ W1 : Nat → Nat → Hp → Prop, (∃ m, W1 0 m H4) ∧
  ∀ j k H, W1 j k H → (J1.stop j H ∧ N0 H) ∨ (J1.go j H ∧ ∃ N1 : Hp → Prop, (∀ H', N1 H' → ∃ k', k' < k ∧ W1 (j + 1) k' H') ∧
    ∀ x H', J1.yld j H x H' → g1 x (wipe σ2 vs1) H' fun σ3 H5 => wipe σ3 vs1 = wipe σ2 vs1 ∧ tt1 σ3 H5 fun b H6 => dcPut tk tv D N1 b σ3 H6)
/-- behind the outer tests -/
def dcOut (wi1 : TI) (g1 : TG) (tt1 : TT) (tk tv : TE) (vs1 : List Nat) (D : Addr) (N0 : Hp → Prop) (b : Bool) (σ2 : L2.St) (H3 : Hp) : Prop := (b = false → N0 H3) ∧ (b = true → wi1 σ2 H3 (dcIn g1 tt1 tk tv vs1 D N0 σ2))
/-- {k: v for tg in iter if .. for tg1 in iter1 if ..}: D the new dict; vs the block's names, vs1 those of the inner target -/
def tDc2 (wi : TI) (g : TG) (tt : TT) (wi1 : TI) (g1 : TG) (tt1 : TT) (tk tv : TE) (vs vs1 : List Nat) : TE := fun σ H Q => wi σ H fun J H1 => ∀ D, H1 D = none → ∃ W : Nat → Nat → Hp → Prop, (∃ m, W 0 m (upd H1 D (.dK []))) ∧
  ∀ i m H, W i m H → (J.stop i H ∧ Q (.ref D) H) ∨ (J.go i H ∧ ∃ N0 : Hp → Prop, (∀ H', N0 H' → ∃ m', m' < m ∧ W (i + 1) m' H') ∧
    ∀ x H', J.yld i H x H' → g x (wipe σ vs) H' fun σ2 H2 => wipe σ2 vs = wipe σ vs ∧ tt σ2 H2 fun b H3 => dcOut wi1 g1 tt1 tk tv vs1 D N0 b σ2 H3)
section
variable {X : Cx}
/-- what a loop's turn begins with, in a block that lets nothing out -/
structure Beg (Y : Cx) (P : List (Addr × Obj)) (fp : List Addr) (tn : Nat → Heap → Prop) (σ : L2.St) (i : Nat) (H : Hp) (s : Shared) : Prop where
  inv : Inv Y P σ H s
  tn : tn i s.heap
  fr : ∀ b ∈ fp, H b = none
/-- where the tests are done -/
structure Mid (Y : Cx) (P : List (Addr × Obj)) (fp : List Addr) (tn : Nat → Heap → Prop) (i : Nat) (h : Heap) (σ : L2.St) (H : Hp) (s : Shared) : Prop where
  inv : Inv Y (P ++ pinsAt fp h) σ H s
  tn : tn (i + 1) h
theorem Mid.next {Y : Cx} {P : List (Addr × Obj)} {fp : List Addr} {tg : Expr} {J : It} {it : Addr} {tn : Nat → Heap → Prop} {i : Nat} {h : Heap} {σ σ0 : L2.St} {H : Hp} {s : Shared} (T : Turn Y.prog Y.w Y.K tg J fp it tn) (m : Mid Y P fp tn i h σ H s) (hl : σ0.length = σ.length)
    (hk : ∀ (j : Nat) v, σ0[j]? = some (some v) → σ[j]? = some (some v)) : Beg Y P fp tn σ0 (i + 1) H s := by
  have pin : ∀ b ∈ fp, ∀ o, h.get? b = some o → s.heap.get? b = some o ∧ H b = none := fun b hb o e =>
    have z := m.inv.pin (b, o) (List.mem_append_right _ (List.mem_append_right _ (mem_pinsAt hb e)))
    ⟨z.1, z.2.1⟩
  refine ⟨m.inv.unpinned.weak hl hk, T.keep _ _ _ m.tn fun b hb o e => (pin b hb o e).1, fun b hb => ?_⟩
  obtain ⟨o, e, _⟩ := T.obj _ _ m.tn b hb
  exact (pin b hb o e).2
/-- one turn: the item, its store, the tests -/
theorem one_turn {Y : Cx} {P : List (Addr × Obj)} {fp : List Addr} {tg : Expr} {ifs : List Expr} {g : TG} {tt : TT} {J : It} {it : Addr} {tn : Nat → Heap → Prop} {i : Nat} {σ : L2.St} {H : Hp} {s : Shared} {L : L2.St → Prop} {Kk : Bool → L2.St → Hp → Prop} {NE : Value → Shared → Prop} {Z : Bool → Shared → Prop} {R0 : Shared → Prop}
    (hc : Y.calm = true) (hx : Y.xe = fun _ _ => False) (T : Turn Y.prog Y.w Y.K tg J fp it tn) (hfp : ∀ H, (∀ b ∈ fp, H b = none) → ∀ b ∈ fp, FpOk Y P H b) (pg : PG Y tg g) (pt : PTs Y ifs tt) (B : Beg Y P fp tn σ i H s) (go : J.go i H)
    (step : ∀ x H', J.yld i H x H' → g x σ H' fun σ2 H2 => L σ2 ∧ tt σ2 H2 fun b H3 => Kk b σ2 H3) (done : ∀ h b σ2 H3 s4, Mid Y P fp tn i h σ2 H3 s4 → L σ2 → Kk b σ2 H3 → Z b s4) :
    wpAny (model Y.prog Y.w) Y.A (pyNext (.ref it)) (fun r s1 => match r with
      | none => R0 s1
      | some v => wpAny (model Y.prog Y.w) Y.A (letOwnedTupleGo tg (.ref it) v) (fun _ s2 => wpAny (model Y.prog Y.w) Y.A (assign tg Y.env v) (fun _ s3 => wpAny (model Y.prog Y.w) Y.A (testsM ifs Y.env) Z NE s3) NE s2) NE s1) NE s := by
  have nx : ∀ e s, ¬ Y.xe e s := fun e s z => by rw [hx] at z; exact z
  refine thnF (T.item Y rfl rfl rfl hc i P s σ H (fun _ _ => False) B.inv (hfp H B.fr) B.tn go) fun r s1 ⟨u, hr, h1⟩ => ?_
  subst hr
  refine thnF h1 fun _ s2 ⟨x, H2, I2, r2, y2, t2, n2⟩ => ?_
  have I2' := I2.pinned (hfp H2 n2) (T.obj _ _ t2)
  refine wpAny_mono (pg.run _ s2 σ H2 x u _ I2' r2 (step x H2 y2)) (fun _ s3 ⟨σ3, H3, I3, l3, q3⟩ => ?_) fun e s z => (nx e s z).elim
  refine wpAny_mono (pt.run _ s3 σ3 H3 _ I3 q3) (fun b s4 ⟨H4, I4, q4⟩ => ?_) fun e s z => (nx e s z).elim
  exact done _ b σ3 H4 s4 ⟨I4, t2⟩ l3 q4
theorem dc2_any {X : Cx} {pins : List (Addr × Obj)} {s : Shared} {σ : L2.St} {H : Hp} {Q : VK} {pos' : Pos} {use : Option (Value → Sem Unit)} {Qf : Value → Shared → Prop} (I : Inv X pins σ H s) {kx vx tg iter tg1 iter1 : Expr} {ifs ifs1 : List Expr} {scope : Scope} {own : List (Str × Nat)} {vs1 : List Nat} {pos : Pos} {wi wi1 : TI} {g g1 : TG} {tt tt1 : TT} {tk tv : TE} (hc : X.calm = true) (hN : X.N.Nodup) (hi : PI X tg iter wi) (ok : BlkOk X.N X.env.scope scope own) (hv : ∀ i ∈ vs1, i ∈ own.map (·.2))
    (hb : ∀ (s : Shared) (H : Hp) (C : Addr) (cl : List (Str × Addr)) (fp : List Addr), let Y := X.blk s H scope (compEnvC scope cl C X.env) fp; PG Y tg g ∧ PTs Y ifs tt ∧ PI Y tg1 iter1 wi1 ∧ PG Y tg1 g1 ∧ PTs Y ifs1 tt1 ∧ PE Y kx tk ∧ PE Y vx tv)
    (hs : ∀ x, foldedSetIterable iter X.env x = pure x) (hs1 : ∀ env x, foldedSetIterable iter1 env x = pure x) (h : tDc2 wi g tt wi1 g1 tt1 tk tv (own.map (·.2)) vs1 σ H Q)
    (hR : ∀ D C s' m H', Inv X pins σ H' s' → Q (.ref D) H' → s'.heap.Ns C m → FpOk X pins H' C → compPost (model X.prog X.w) X.A X.xe use Qf (.ref D) C (.ok .next) s') :
    wpAny (model X.prog X.w) X.A (comprehension (.DictComp kx vx [⟨tg, iter, ifs, 0⟩, ⟨tg1, iter1, ifs1, 0⟩] scope pos) scope X.env pos' newDict false (eval iter X.env) use) Qf X.xe s := by
  have free : ∀ y ∈ scope.names, y.2 = .free → ∃ c, X.env.cells.lookup y.1 = some c := fun y hy e => (ok.free y hy e).elim (fun k => I.ok.has _ (.inl k)) fun k => I.ok.has _ (.inr k)
  refine wpAny_comprehension_free (use := use) rfl hs (closure_ok free) ok.kind (fun y hy e => by rw [ok.uniq y hy, e])
    (thn (hi.run pins s σ H _ I h) fun xv s1 hx => thn hx fun itv s2 ⟨it, fp, tn, J, H2, e, I2, T, st2, f2, q⟩ => ?_)
  subst e
  refine wpAny_newObj_type (newEnv_comp ?_)
  generalize hD : s2.heap.objs.size = D
  obtain ⟨W, ⟨m0, w0⟩, turn⟩ := q D (I2.hok.fresh (Nat.le_of_eq hD))
  generalize hs3 : ({ s2 with heap := s2.heap.push { cls := .type "dict", data := .dict #[] } } : Shared) = s3
  have h3 : s3.heap = s2.heap.push { cls := .type "dict", data := .dict #[] } := by rw [← hs3]
  have I3 : Inv X pins σ (upd H2 D (.dK [])) s3 := by
    rw [← hs3]
    exact I2.laid (t' := s2.toks) (fun b o e => Heap.get?_push_of_some _ e) (Nat.le_of_eq hD) (by rw [← hD]; exact dk_empty s2.heap I2.big)
  have f3 : ∀ b ∈ fp, FpOk X pins (upd H2 D (.dK [])) b ∧ b < s3.heap.objs.size := fun b hb => by
    obtain ⟨o, e, _⟩ := T.obj _ _ st2 b hb
    have hlt := Heap.lt_size e
    refine ⟨⟨?_, (f2 b hb).2⟩, by rw [h3, Heap.size_push]; exact Nat.lt_succ_of_lt hlt⟩
    rw [upd_ne (by rw [← hD]; exact Nat.ne_of_lt hlt)]
    exact (f2 b hb).1
  have st3 : tn 0 s3.heap := T.keep _ _ _ st2 fun b _ o e => by rw [h3]; exact Heap.get?_push_of_some _ e
  have I4 := block_start I3 ok hN f3
  have pb := hb s3 (upd H2 D (.dK [])) s3.heap.objs.size (cellsFrom (s3.heap.objs.size + 1) scope.names (cloFrom X.env.cells scope.names [])) fp
  have nfp : ∀ b ∈ fp, (upd H2 D (.dK [])) b = none := fun b hb => (f3 b hb).1.1
  show codeAny _ _ (.compStart (.DictComp kx vx [⟨tg, iter, ifs, 0⟩, ⟨tg1, iter1, ifs1, 0⟩] scope pos) 0 (.ref it) (.ref D) (compEnvC scope (cellsFrom (s3.heap.objs.size + 1) scope.names (cloFrom X.env.cells scope.names [])) s3.heap.objs.size X.env)) _ { s3 with heap := pushCells (s3.heap.push { cls := .type "dict", data := .dict #[] }) scope.names }
  generalize hce : compEnvC scope (cellsFrom (s3.heap.objs.size + 1) scope.names (cloFrom X.env.cells scope.names [])) s3.heap.objs.size X.env = ce at I4 pb ⊢
  have cL : ce.locals = s3.heap.objs.size := by subst hce; rfl
  generalize hH3 : upd H2 D (.dK []) = H3 at I3 I4 pb w0 nfp f3
  generalize hs4 : ({ s3 with heap := pushCells (s3.heap.push { cls := .type "dict", data := .dict #[] }) scope.names } : Shared) = s4 at I4 ⊢
  have st4 : tn 0 s4.heap := T.keep _ _ _ st3 fun b _ o e => by rw [← hs4]; exact pushCells_keeps _ _ _ _ (Heap.get?_push_of_some _ e)
  obtain ⟨pg, pt, pi1, pg1, pt1, pk, pv⟩ := pb
  have fpY : ∀ H, (∀ b ∈ fp, H b = none) → ∀ (σ : L2.St) (s : Shared), Inv (X.blk s3 H3 scope ce fp) [] σ H s → ∀ b ∈ fp, FpOk (X.blk s3 H3 scope ce fp) [] H b := fun H hn σ s I' b hb =>
    ⟨hn b hb, (I'.ok.exf b hb).1, I'.ok.exfs b hb, .inl hb, fun x c e => (I'.ok.exf b hb).2 x c e, fun p hp => by simp at hp⟩
  generalize hE : Expr.DictComp kx vx [⟨tg, iter, ifs, 0⟩, ⟨tg1, iter1, ifs1, 0⟩] scope pos = E
  have loop : ∀ (Post : Result → Shared → Prop), (∀ s' H', Inv (X.blk s3 H3 scope ce fp) [] (wipe σ (own.map (·.2))) H' s' → Q (.ref D) H' → Post (.ok .next) s') → codeAny (model X.prog X.w) X.A (.compLoop E 0 (.ref it) (.ref D) ce) Post s4 := by
    intro Post hPost
    refine loopO hE.symm (by rw [← hE]; exact turnOut) (hs1 ce) (fun n s' => ∃ i H', Beg (X.blk s3 H3 scope ce fp) [] fp tn (wipe σ (own.map (·.2))) i H' s' ∧ W i n H') _ rfl ?_ m0 s4 ⟨0, H3, ⟨I4, st4, nfp⟩, w0⟩
    rintro n s5 ⟨i, H5, B5, w5⟩
    rcases turn i n H5 w5 with ⟨stop, qq⟩ | ⟨go, N0, hN0, step⟩
    · refine thnF (T.done (X.blk s3 H3 scope ce fp) rfl rfl rfl hc i [] s5 _ H5 (fun _ _ => False) B5.inv (fpY _ B5.fr _ _ B5.inv) B5.tn stop) fun r s6 ⟨hr, I6⟩ => ?_
      subst hr
      exact hPost s6 H5 I6 qq
    · refine one_turn (Y := X.blk s3 H3 scope ce fp) hc rfl T (fun H hn b hb => ?_) pg pt B5 go step fun h b σ8 H9 s9 M l8 q9 => ?_
      · exact ⟨hn b hb, (B5.inv.ok.exf b hb).1, B5.inv.ok.exfs b hb, .inl hb, fun x c e => (B5.inv.ok.exf b hb).2 x c e, fun p hp => by simp at hp⟩
      have fin : ∀ {σ9 : L2.St} {s' : Shared} {H' : Hp}, Inv (X.blk s3 H3 scope ce fp) ([] ++ pinsAt fp h) σ9 H' s' → (wipe σ (own.map (·.2))).length = σ9.length → (∀ (j : Nat) v, (wipe σ (own.map (·.2)))[j]? = some (some v) → σ9[j]? = some (some v)) → N0 H' →
          ∃ m, m < n ∧ ∃ i H', Beg (X.blk s3 H3 scope ce fp) [] fp tn (wipe σ (own.map (·.2))) i H' s' ∧ W i m H' := fun {σ9 s' H'} I' hl hk nx => by
        obtain ⟨m', hm, w'⟩ := hN0 H' nx
        exact ⟨m', hm, i + 1, H', Mid.next (Y := X.blk s3 H3 scope ce fp) T ⟨I', M.tn⟩ hl hk, w'⟩
      have hl8 : (wipe σ (own.map (·.2))).length = σ8.length := by rw [← l8, wipe_length]
      have hk8 : ∀ (j : Nat) v, (wipe σ (own.map (·.2)))[j]? = some (some v) → σ8[j]? = some (some v) := fun j v e => by
        rw [← l8] at e
        exact (wipe_some e).1
      have hk9 : ∀ (j : Nat) v, (wipe σ (own.map (·.2)))[j]? = some (some v) → (wipe σ8 vs1)[j]? = some (some v) := fun j v e => by
        rw [← l8] at e
        obtain ⟨e1, e2⟩ := wipe_some e
        rw [wipe_out fun z => e2 (hv j z)]
        exact e1
      refine ⟨fun hb => ?_, fun hb => fin M.inv hl8 hk8 (q9.1 hb)⟩
      refine thnF (pi1.run _ s9 σ8 H9 _ M.inv (q9.2 hb)) fun xv s10 hx => thnF hx fun itv s11 ⟨it1, fp1, tn1, J1, H11, e1, I11, T1, st11, f11, W1, ⟨m1, w1⟩, turn1⟩ => ?_
      subst e1
      -- the inner loop
      have loop1 : codeAny (model X.prog X.w) X.A (.compLoop E 1 (.ref it1) (.ref D) ce)
          (fun r s' => match r with | .ok _ => ∃ m, m < n ∧ ∃ i H', Beg (X.blk s3 H3 scope ce fp) [] fp tn (wipe σ (own.map (·.2))) i H' s' ∧ W i m H' | .error _ => False) s11 := by
        refine loopC hE.symm (by rw [← hE]; exact turnIn) (fun k s' => ∃ j H', Beg (X.blk s3 H3 scope ce fp) ([] ++ pinsAt fp h) fp1 tn1 (wipe σ8 vs1) j H' s' ∧ W1 j k H') _ rfl ?_ m1 s11 ⟨0, H11, ⟨I11.weak (wipe_length _ _) (fun j v e => (wipe_some e).1), st11, fun b hb => (f11 b hb).1⟩, w1⟩
        rintro k s12 ⟨j, H12, B12, w12⟩
        rcases turn1 j k H12 w12 with ⟨stop1, nx1⟩ | ⟨go1, N1, hN1, step1⟩
        · refine thnF (T1.done (X.blk s3 H3 scope ce fp) rfl rfl rfl hc j _ s12 _ H12 (fun _ _ => False) B12.inv (fun b hb => ⟨B12.fr b hb, (f11 b hb).2⟩) B12.tn stop1) fun r s13 ⟨hr, I13⟩ => ?_
          subst hr
          exact fin I13 (hl8.trans (wipe_length σ8 vs1).symm) hk9 nx1
        · refine one_turn (Y := X.blk s3 H3 scope ce fp) hc rfl T1 (fun H hn b hb => ⟨hn b hb, (f11 b hb).2⟩) pg1 pt1 B12 go1 step1 fun h1 b1 σ15 H16 s16 M1 l15 q16 => ?_
          have fin1 : ∀ {s' : Shared} {H' : Hp}, Inv (X.blk s3 H3 scope ce fp) (([] ++ pinsAt fp h) ++ pinsAt fp1 h1) σ15 H' s' → N1 H' → ∃ m, m < k ∧ ∃ j H', Beg (X.blk s3 H3 scope ce fp) ([] ++ pinsAt fp h) fp1 tn1 (wipe σ8 vs1) j H' s' ∧ W1 j m H' := fun {s' H'} I' nx => by
            obtain ⟨m', hm, w'⟩ := hN1 H' nx
            exact ⟨m', hm, j + 1, H', Mid.next (Y := X.blk s3 H3 scope ce fp) T1 ⟨I', M1.tn⟩ (by rw [← l15, wipe_length]) (fun j v e => by rw [← l15] at e; exact (wipe_some e).1), w'⟩
          refine ⟨fun hb1 => put_ok ?_, fun hb1 => fin1 M1.inv (q16.1 hb1)⟩
          refine thnF (pk.run _ s16 σ15 H16 _ M1.inv (q16.2 hb1)) fun a s17 ⟨yk, H17, I17, r17, q17⟩ => ?_
          refine thnF (pv.run _ s17 σ15 H17 _ I17 q17) fun c s18 ⟨yv, H18, I18, r18, kvs, ky, ek, hD18, hz18, nx⟩ => ?_
          subst ek
          exact d_dictSet (X := X.blk s3 H3 scope ce fp) I18 hD18 hz18 r17 r18 fun s19 I19 => fin1 I19 nx
      rw [← hE] at loop1 ⊢
      exact start1 loop1 (T1.self X.A 0 _ _ _ st11 loop1)
  rw [← hE] at loop ⊢
  refine (fun L => codeAny_compStart_dict L (T.self X.A 0 _ _ _ st4 L)) (loop _ fun s6 H5 I6 qq => ?_)
  have I7 : Inv X pins σ H5 s6 := I3.call' (ch := fp) I6.os I6.base I6.hok I6.bare fun b hb => ⟨(f3 b hb).1.2.2.2.1, (f3 b hb).1.2.1, (f3 b hb).1.2.2.2.2.1, (f3 b hb).1.2.2.2.2.2⟩
  have nC : H5 s3.heap.objs.size = none := by
    have z : H5 ce.locals = none := I6.free
    rw [cL] at z
    exact z
  obtain ⟨m, hn, _⟩ := I6.loc
  have hn : s6.heap.Ns ce.locals m := hn
  rw [cL] at hn
  exact hR D s3.heap.objs.size s6 m H5 I7 qq hn (I3.fpOk (Nat.le_refl _) nC)
/-- y = {k: v for .. for ..} on one line -/
theorem ps_setDc2 {X : Cx} {i : Nat} {y : Str} {py spos : Pos} {kx vx tg iter tg1 iter1 : Expr} {ifs ifs1 : List Expr} {scope : Scope} {own : List (Str × Nat)} {vs1 : List Nat} {pos : Pos} {wi wi1 : TI} {g g1 : TG} {tt tt1 : TT} {tk tv : TE} (hc : X.calm = true) (hN : X.N.Nodup) (hy : X.N[i]? = some y) (hyl : X.env.scope.names.lookup y = some .local)
    (hsw : swapsWith (.DictComp kx vx [⟨tg, iter, ifs, 0⟩, ⟨tg1, iter1, ifs1, 0⟩] scope pos) (some (.Name y py)) spos.line X.env = pure true) (hi : PI X tg iter wi) (ok : BlkOk X.N X.env.scope scope own) (hv : ∀ i ∈ vs1, i ∈ own.map (·.2))
    (hb : ∀ (s : Shared) (H : Hp) (C : Addr) (cl : List (Str × Addr)) (fp : List Addr), let Y := X.blk s H scope (compEnvC scope cl C X.env) fp; PG Y tg g ∧ PTs Y ifs tt ∧ PI Y tg1 iter1 wi1 ∧ PG Y tg1 g1 ∧ PTs Y ifs1 tt1 ∧ PE Y kx tk ∧ PE Y vx tv)
    (hs : ∀ x, foldedSetIterable iter X.env x = pure x := by intro _; rfl) (hs1 : ∀ env x, foldedSetIterable iter1 env x = pure x := by intro _ _; rfl) :
    PS X (.Assign [.Name y py] (.DictComp kx vx [⟨tg, iter, ifs, 0⟩, ⟨tg1, iter1, ifs1, 0⟩] scope pos) spos) (fun D σ H => tDc2 wi g tt wi1 g1 tt1 tk tv (own.map (·.2)) vs1 σ H fun x H1 => gName i x σ H1 D.nx) := by
  refine ⟨fun pins s σ H D I h => ?_⟩
  rw [exec_Assign_Name_used _ _ _ _ hsw]
  refine wpAny_bind (wpAny_standAt (wpAny_bind ?_))
  show wpAny _ X.A (do let _ ← comprehension (.DictComp kx vx [⟨tg, iter, ifs, 0⟩, ⟨tg1, iter1, ifs1, 0⟩] scope pos) scope X.env (firstIterPos [⟨tg, iter, ifs, 0⟩, ⟨tg1, iter1, ifs1, 0⟩] pos) newDict false (eval iter X.env) (some (assign (.Name y py) X.env))) _ _ s
  refine wpAny_bind (thn (dc2_any (Qf := fun _ s' => SP X pins D .next s') I hc hN hi ok hv hb hs hs1 h fun L C s' m H' I' q hn ⟨f0, f1, _, f3, f4, f5⟩ => ?_) fun _ s' hq => wpAny_pure (wpAny_pure hq))
  show wpAny _ _ (assign (.Name y py) X.env (.ref L)) _ _ _
  refine wpAny_assign_Name (store_ok2 (v := V.ref L) I' hN hy (.inl hyl) rfl (fun s2 I2 ⟨a, sb, ha⟩ => ?_) (.inr hyl))
  have ne : C ≠ a := ha.elim (fun z => by rw [z]; exact f1) fun z e => f4 y a z e.symm
  exact ⟨m, hn.sameBut sb ne, fun h3 sb3 => ⟨_, H', I2.turned (t' := s2.toks) (fun b o hb e => (sb3.2 b hb).trans e) f0 f1 f3 f4 f5, q⟩⟩
end
end Fn
/-! dicts of ints or texts as keys: {k: v for .. for ..}, d[k] -/
namespace Fn
open PySem L2 PySem.Spec PyProof.Rows
section
variable {κ : Type} [DecidableEq κ]
def putU (kvs : List (κ × U)) (k : κ) (u : U) : List (κ × U) :=
  match kvs.any fun kv => decide (kv.1 = k) with
  | true => kvs.map fun kv => match decide (kv.1 = k) with | true => (kv.1, u) | false => kv
  | false => kvs ++ [(k, u)]
def valU (kvs : List (κ × U)) (k : κ) : Option U := match kvs with
  | [] => none
  | p :: r => match decide (p.1 = k) with | true => some p.2 | false => valU r k
inductive RK (G : Cfg) (w : Wd) : List (κ × U) → List (κ × V) → Prop
  | nil : RK G w [] []
  | cons {k : κ} {u : U} {v : V} {us : List (κ × U)} {vs : List (κ × V)} : R G w u v → RK G w us vs → RK G w ((k, u) :: us) ((k, v) :: vs)
variable {G : Cfg} {w w' : Wd}
theorem RK.length : ∀ {us : List (κ × U)} {vs : List (κ × V)}, RK G w us vs → us.length = vs.length
  | _, _, .nil => rfl
  | _, _, .cons _ t => by simp [RK.length t]
theorem RK.mon (e : Mon G w w') : ∀ {us : List (κ × U)} {vs : List (κ × V)}, RK G w us vs → RK G w' us vs
  | _, _, .nil => .nil
  | _, _, .cons r t => .cons (r.mon e) (RK.mon e t)
theorem RK.up (m : Sm G w) (e : Ext w w') : ∀ {us : List (κ × U)} {vs : List (κ × V)}, RK G w us vs → RK G w' us vs
  | _, _, .nil => .nil
  | _, _, .cons r t => .cons (r.up m e) (RK.up m e t)
theorem RK.any (k : κ) : ∀ {us : List (κ × U)} {vs : List (κ × V)}, RK G w us vs → (us.any fun kv => decide (kv.1 = k)) = vs.any fun kv => decide (kv.1 = k)
  | _, _, .nil => rfl
  | _, _, .cons _ t => by rw [List.any_cons, List.any_cons, RK.any k t]
theorem RK.over (k : κ) {u : U} {v : V} (r : R G w u v) : ∀ {us : List (κ × U)} {vs : List (κ × V)}, RK G w us vs →
    RK G w (us.map fun kv => match decide (kv.1 = k) with | true => (kv.1, u) | false => kv) (vs.map fun kv => if kv.1 = k then (kv.1, v) else kv)
  | _, _, .nil => .nil
  | _, _, @RK.cons _ _ _ k' _ _ _ _ r1 t => by
    rw [List.map_cons, List.map_cons]
    by_cases e : k' = k
    · simp only [e, decide_true, if_true]
      exact .cons r (RK.over k r t)
    · simp only [e, decide_false, if_false]
      exact .cons r1 (RK.over k r t)
theorem RK.append {us1 : List (κ × U)} {vs1 : List (κ × V)} (h1 : RK G w us1 vs1) : ∀ {us : List (κ × U)} {vs : List (κ × V)}, RK G w us vs → RK G w (us ++ us1) (vs ++ vs1)
  | _, _, .nil => h1
  | _, _, .cons r t => .cons r (RK.append h1 t)
theorem RK.put (k : κ) {u : U} {v : V} (r : R G w u v) {us : List (κ × U)} {vs : List (κ × V)} (h : RK G w us vs) : RK G w (putU us k u) (putK vs k v) := by
  unfold putU putK
  rw [← h.any k]
  cases us.any fun kv => decide (kv.1 = k) with
  | true => exact h.over k r
  | false => exact RK.append (.cons r .nil) h
theorem RK.val {k : κ} {u : U} : ∀ {us : List (κ × U)} {vs : List (κ × V)}, RK G w us vs → valU us k = some u → ∃ v, valV vs k = some v ∧ R G w u v
  | _, _, .nil, e => by cases e
  | _, _, @RK.cons _ _ _ k' u' v' _ _ r t, e => by
    unfold valU at e
    split at e
    · rename_i q
      cases e
      have q : k' = k := of_decide_eq_true q
      exact ⟨v', valV_pos q, r⟩
    · rename_i q
      obtain ⟨v, h1, h2⟩ := RK.val t e
      have q : ¬ k' = k := of_decide_eq_false q
      exact ⟨v, by rw [valV_neg (p := (k', v')) q]; exact h1, h2⟩
theorem RK.zip : ∀ {us : List (κ × U)} {vs : List (κ × V)}, RK G w us vs → vs = (us.map (·.1)).zip (vs.map (·.2)) ∧ RL G w (us.map (·.2)) (vs.map (·.2))
  | _, _, .nil => ⟨rfl, .nil⟩
  | _, _, .cons r t => by
    obtain ⟨h1, h2⟩ := RK.zip t
    refine ⟨?_, .cons r h2⟩
    rw [List.map_cons, List.map_cons, List.zip_cons_cons, ← h1]
theorem RK.of : ∀ {us : List (κ × U)} {vs : List V}, RL G w (us.map (·.2)) vs → RK G w us ((us.map (·.1)).zip vs)
  | [], _, h => by cases h; exact .nil
  | (k, u) :: r, _, h => by
    cases h with
    | cons r1 t => exact .cons r1 (RK.of t)
end
/-! ### the new dict -/
section
variable {G : Cfg} {w w' : Wd}
/-- any new object, tracked from here on -/
theorem toTrackedO {o : UO} {p : Addr} (e : Ext w w') (m : Sm G w') (ho : ∀ w'', Les w' w'' → RO G w'' p o) (hn : w.H p = none) (hz : w'.Z p) (hr : p ∉ w'.r) :
    ∃ w'' : Wd, w''.h = w'.h ++ [o] ∧ w''.H = w'.H ∧ Ext w w'' ∧ Sm G w'' ∧ R G w'' (.ref w'.h.length) (.ref p) := by
  have hle : Les w' { w' with r := w'.r ++ [p], h := w'.h ++ [o] } := ⟨fun a h => h, fun i a h => by
    show (w'.r ++ [p])[i]? = some a
    rw [List.getElem?_append_left (List.getElem?_eq_some_iff.mp h).1]; exact h, rfl⟩
  refine ⟨{ w' with r := w'.r ++ [p], h := w'.h ++ [o] }, rfl, rfl, ⟨?_, e.zi, e.zs, e.keep, e.dom⟩, ⟨by simp [m.len], ?_, fun a h => ?_, m.dom, fun i a x h1 h2 => ?_⟩, .ref ?_⟩
  · obtain ⟨nw, e1, e2⟩ := e.nw
    refine ⟨nw ++ [p], by show w'.r ++ [p] = _; rw [e1, List.append_assoc], fun a ha => ?_⟩
    rcases List.mem_append.mp ha with q | q
    · exact e2 a q
    · rw [List.mem_singleton.mp q]; exact hn
  · show (w'.r ++ [p]).Nodup
    rw [List.nodup_append]
    exact ⟨m.nd, by simp, fun a ha b hb => by rw [List.mem_singleton.mp hb]; exact fun z => hr (z ▸ ha)⟩
  · rcases List.mem_append.mp (show a ∈ w'.r ++ [p] from h) with q | q
    · exact m.z a q
    · rw [List.mem_singleton.mp q]; exact hz
  · have h1 : (w'.r ++ [p])[i]? = some a := h1
    have h2 : (w'.h ++ [o])[i]? = some x := h2
    by_cases hi : i < w'.h.length
    · rw [List.getElem?_append_left (by rw [m.len]; exact hi)] at h1
      rw [List.getElem?_append_left hi] at h2
      cases m.obj i a x h1 h2 with
      | lst h l => exact .lst h (l.les hle)
      | dk h l => exact .dk h (l.les hle)
      | dt h l => exact .dt h (l.les hle)
      | ins h hl l => exact .ins h hl (l.les hle)
    · have hi2 : i = w'.h.length := by
        have := (List.getElem?_eq_some_iff.mp h2).1
        simp at this
        omega
      subst hi2
      rw [List.getElem?_append_right (by rw [m.len]; exact Nat.le_refl _), m.len, Nat.sub_self] at h1
      rw [List.getElem?_append_right (Nat.le_refl _), Nat.sub_self] at h2
      cases h1
      cases h2
      exact ho _ hle
  · show (w'.r ++ [p])[w'.h.length]? = some p
    rw [List.getElem?_append_right (by rw [m.len]; exact Nat.le_refl _), m.len, Nat.sub_self]
    rfl
end
def keyU : U → Option Key | .int i => some (.inl i) | .str x => some (.inr x) | _ => none
theorem keyU_of {G : Cfg} {w : Wd} {u : U} {v : V} {k : Key} (r : R G w u v) (h : keyU u = some k) : v = kV k := by
  cases r with
  | int i => cases h; rfl
  | str x => cases h; rfl
  | _ => cases h
/-- d[k] = v of the p-th own object -/
def putP (p : Nat) (ku vu : U) (h : List UO) : Rs Unit := match keyU ku, h[p]? with
  | some k, some (.dk acc) => (match Nat.blt acc.length 16777216 with | true => .ok () (h.set p (.dk (putU acc k vu))) | false => .no)
  | _, _ => .no
theorem putP_of {G : Cfg} {w : Wd} {p : Nat} {D : Addr} {ku vu : U} {vk vv : V} {h' : List UO} (m : Sm G w) (hr : w.r[p]? = some D) (rk : R G w ku vk) (rv : R G w vu vv) (h : putP p ku vu w.h = .ok () h') :
    ∃ kvs k, vk = kV k ∧ w.H D = some (.dK kvs) ∧ kvs.length < sizeLine ∧ ∃ w' : Wd, w'.H = upd w.H D (.dK (putK kvs k vv)) ∧ w'.h = h' ∧ Ext w w' ∧ Sm G w' := by
  unfold putP at h
  split at h
  · rename_i k acc hk hp
    split at h
    · rename_i hz
      cases h
      cases m.obj _ _ _ hr hp with
      | @dk _ ws hv l =>
        have l2 := RK.of l
        have e : Ext w (w.put p D (.dk (putU acc k vu)) (.dK (putK ((acc.map (·.1)).zip ws) k vv))) := Ext.put m hr hp
        refine ⟨_, k, keyU_of rk hk, hv, ?_, _, rfl, rfl, e, m.put hr hp ?_⟩
        · rw [← l2.length, sizeLine_eq]
          exact Nat.le_of_ble_eq_true hz
        · obtain ⟨q1, q2⟩ := ((l2.put k rv).up m e).zip
          exact .dk (by rw [← q1]; exact upd_same) q2
    · cases h
  · cases h
def dcL1 (tg1 : Tgt) (ts1 : EvB) (kf vf : Ev) (p : Nat) (us : Lo) : List U → List UO → Rs Unit
  | [], h => .ok () h
  | x :: r, h => match tg1 x us with
    | none => .no
    | some us1 => match ts1 us1 h with
      | .ok true h1 => (match kf us1 h1 with
        | .ok ku h2 => (match vf us1 h2 with
          | .ok vu h3 => (match putP p ku vu h3 with
            | .ok _ h4 => dcL1 tg1 ts1 kf vf p us r h4
            | _ => .no)
          | _ => .no)
        | _ => .no)
      | .ok false h1 => dcL1 tg1 ts1 kf vf p us r h1
      | _ => .no
def dcL (tg : Tgt) (ts : EvB) (fi1 : EvI) (tg1 : Tgt) (ts1 : EvB) (kf vf : Ev) (vs1 : List Nat) (p : Nat) (us : Lo) : List U → List UO → Rs Unit
  | [], h => .ok () h
  | x :: r, h => match tg x us with
    | none => .no
    | some us1 => match ts us1 h with
      | .ok true h1 => (match fi1 us1 h1 with
        | .ok (.fix xs) h2 => (match dcL1 tg1 ts1 kf vf p (wipeU us1 vs1) xs h2 with
          | .ok _ h3 => dcL tg ts fi1 tg1 ts1 kf vf vs1 p us r h3
          | _ => .no)
        | _ => .no)
      | .ok false h1 => dcL tg ts fi1 tg1 ts1 kf vf vs1 p us r h1
      | _ => .no
/-- {k: v for .. for ..} -/
def eDc2 (fi : EvI) (tg : Tgt) (ts : EvB) (fi1 : EvI) (tg1 : Tgt) (ts1 : EvB) (kf vf : Ev) (vs vs1 : List Nat) : Ev := fun us h => (fi us h).bind fun s h1 => match s with
  | .fix xs => (match dcL tg ts fi1 tg1 ts1 kf vf vs1 h1.length (wipeU us vs) xs (h1 ++ [.dk []]) with | .ok _ h2 => .ok (.ref h1.length) h2 | _ => .no)
  | .dyn _ => .no
section
variable {G : Cfg} {W : WX} {tg tg1 : Tgt} {sl sl1 vs vs1 : List Nat} {ts ts1 : EvB} {fi fi1 : EvI} {kf vf : Ev} {us : Lo} {σ : L2.St} {Q : VK}
theorem dc_loop {w0 w1 : Wd} {xs : List U} {J : It} {D : Addr} {hEnd : List UO} (m0 : Sm G w0) (e01 : Ext w0 w1) (m1 : Sm G w1) (sl0 : SL G w1 us σ) (hJ : JR G w1 (.fix xs) J) (hD : w1.H D = none)
    (h0 : dcL tg ts fi1 tg1 ts1 kf vf vs1 w1.h.length (wipeU us vs) xs (w1.h ++ [.dk []]) = .ok () hEnd) (hsl : ∀ j ∈ sl, j ∈ vs) (hsl1 : ∀ j ∈ sl1, j ∈ vs1) (h : Pt G (R G) W σ w0 (.ok (.ref w1.h.length) hEnd) Q) :
    ∃ Wc : Nat → Nat → Hp → Prop, (∃ m, Wc 0 m (upd w1.H D (.dK []))) ∧ ∀ i m H, Wc i m H → (J.stop i H ∧ Q (.ref D) H) ∨ (J.go i H ∧ ∃ N0 : Hp → Prop, (∀ H', N0 H' → ∃ m', m' < m ∧ Wc (i + 1) m' H') ∧
      ∀ x H', J.yld i H x H' → tG G tg sl x (L2.wipe σ vs) H' fun σ2 H2 => L2.wipe σ2 vs = L2.wipe σ vs ∧ tT G ts W0 σ2 H2 fun b H3 => dcOut (tI G fi1 W0) (tG G tg1 sl1) (tT G ts1 W0) (tE G kf W0) (tE G vf W0) vs1 D N0 b σ2 H3) := by
  generalize hp : w1.h.length = p at h0 h
  obtain ⟨w2, b1, b2, b3, b4, b5⟩ := toTrackedO (o := .dk []) (Ext.newZ (o := .dK []) hD) (m1.newZ hD) (fun w'' le => .dk (vs := []) (by rw [le.H]; exact upd_same) .nil) hD (.inr rfl) (m1.free_r hD)
  have b1 : w2.h = w1.h ++ [.dk []] := b1
  have hr2 : w2.r[p]? = some D := by
    rw [← hp]
    cases b5 with
    | ref q => exact q
  refine ⟨fun i m H => ∃ w, w.H = H ∧ Ext w1 w ∧ Sm G w ∧ w.r[p]? = some D ∧ dcL tg ts fi1 tg1 ts1 kf vf vs1 p (wipeU us vs) (xs.drop i) w.h = .ok () hEnd ∧ m + i = xs.length, ⟨xs.length, w2, b2, b3, b4, hr2, by rw [b1]; exact h0, by omega⟩, ?_⟩
  rintro i m _ ⟨w, rfl, e1, mw, hr, hf, hm⟩
  have hj := hJ w e1 mw i
  have ha : (Src.fix xs).at i w.h = some xs[i]? := rfl
  rw [ha] at hj
  cases q : xs[i]? with
  | none =>
    rw [q] at hj
    rw [List.drop_eq_nil_of_le (List.getElem?_eq_none_iff.mp q)] at hf
    unfold dcL at hf
    cases hf
    exact .inl ⟨hj, h w _ rfl (e01.trans e1) mw (.ref hr)⟩
  | some u =>
    rw [q] at hj
    obtain ⟨go, yld⟩ := hj
    obtain ⟨hi, ei⟩ := List.getElem?_eq_some_iff.mp q
    rw [List.drop_eq_getElem_cons hi, ei] at hf
    unfold dcL at hf
    refine .inr ⟨go, fun H' => ∃ w, w.H = H' ∧ Ext w1 w ∧ Sm G w ∧ w.r[p]? = some D ∧ dcL tg ts fi1 tg1 ts1 kf vf vs1 p (wipeU us vs) (xs.drop (i + 1)) w.h = .ok () hEnd, fun H' ⟨w2, x1, x2, x3, x4, x5⟩ => ⟨m - 1, by omega, w2, x1, x2, x3, x4, x5, by omega⟩, fun x H' hy => ?_⟩
    obtain ⟨w2, rfl, eh, e2, m2, r2⟩ := yld x H' hy
    refine ⟨u, wipeU us vs, w2, rfl, m2, ((sl0.up m1 (e1.trans e2)).wipe vs), r2, ?_⟩
    split at hf
    · cases hf
    · rename_i us1 qt
      rw [qt]
      intro σ2 sl2 ag
      refine ⟨wipe_eq ag.1 ag.2 hsl, us1, w2, rfl, m2, sl2, ?_⟩
      rw [eh]
      split at hf
      · rename_i h1 q1
        rw [q1]
        rintro w3 b a e3 m3 rfl
        subst a
        refine ⟨(fun z => nomatch z), fun _ => ?_⟩
        refine ⟨us1, w3, rfl, m3, sl2.up m2 e3, ?_⟩
        split at hf
        · rename_i ys h2 q2
          rw [q2]
          rintro w4 J1 a e4 m4 hJ1
          subst a
          have e14 : Ext w1 w4 := e1.trans (e2.trans (e3.trans e4))
          have hr4 : w4.r[p]? = some D := (e2.trans (e3.trans e4)).get hr
          have sl4 : SL G w4 us1 σ2 := (sl2.up m2 e3).up m3 e4
          split at hf
          · rename_i h3 q3
            refine ⟨fun j k H => ∃ w5, w5.H = H ∧ Ext w4 w5 ∧ Sm G w5 ∧ dcL1 tg1 ts1 kf vf p (wipeU us1 vs1) (ys.drop j) w5.h = .ok () h3 ∧ k + j = ys.length, ⟨ys.length, w4, rfl, Ext.refl _, m4, q3, by omega⟩, ?_⟩
            rintro j k _ ⟨w5, rfl, e5, m5, hf5, hk⟩
            have hj5 := hJ1 w5 e5 m5 j
            have ha5 : (Src.fix ys).at j w5.h = some ys[j]? := rfl
            rw [ha5] at hj5
            cases q5 : ys[j]? with
            | none =>
              rw [q5] at hj5
              rw [List.drop_eq_nil_of_le (List.getElem?_eq_none_iff.mp q5)] at hf5
              unfold dcL1 at hf5
              cases hf5
              exact .inl ⟨hj5, w5, rfl, e14.trans e5, m5, e5.get hr4, hf⟩
            | some u5 =>
              rw [q5] at hj5
              obtain ⟨go5, yld5⟩ := hj5
              obtain ⟨hi5, ei5⟩ := List.getElem?_eq_some_iff.mp q5
              rw [List.drop_eq_getElem_cons hi5, ei5] at hf5
              unfold dcL1 at hf5
              refine .inr ⟨go5, fun H' => ∃ w5, w5.H = H' ∧ Ext w4 w5 ∧ Sm G w5 ∧ dcL1 tg1 ts1 kf vf p (wipeU us1 vs1) (ys.drop (j + 1)) w5.h = .ok () h3, fun H' ⟨w6, x1, x2, x3, x4⟩ => ⟨k - 1, by omega, w6, x1, x2, x3, x4, by omega⟩, fun x H' hy => ?_⟩
              obtain ⟨w6, rfl, eh6, e6, m6, r6⟩ := yld5 x H' hy
              refine ⟨u5, wipeU us1 vs1, w6, rfl, m6, (sl4.up m4 (e5.trans e6)).wipe vs1, r6, ?_⟩
              split at hf5
              · cases hf5
              · rename_i us6 qt6
                rw [qt6]
                intro σ3 sl7 ag7
                refine ⟨wipe_eq ag7.1 ag7.2 (fun j hj => hsl1 j hj), us6, w6, rfl, m6, sl7, ?_⟩
                rw [eh6]
                split at hf5
                · rename_i h7 q7
                  rw [q7]
                  rintro w7 b a e7 m7 rfl
                  subst a
                  refine ⟨(fun z => nomatch z), fun _ => ?_⟩
                  refine ⟨us6, w7, rfl, m7, sl7.up m6 e7, ?_⟩
                  split at hf5
                  · rename_i ku h8 q8
                    rw [q8]
                    rintro w8 vk a e8 m8 r8
                    subst a
                    refine ⟨us6, w8, rfl, m8, (sl7.up m6 e7).up m7 e8, ?_⟩
                    split at hf5
                    · rename_i vu h9 q9
                      rw [q9]
                      rintro w9 vv a e9 m9 r9
                      subst a
                      have e49 : Ext w4 w9 := ((e5.trans e6).trans e7).trans (e8.trans e9)
                      split at hf5
                      · rename_i h10 q10
                        obtain ⟨kvs, ky, x1, x2, x3, w10, x4, x5, x6, x7⟩ := putP_of m9 (e49.get hr4) (r8.up m8 e9) r9 q10
                        exact ⟨kvs, ky, x1, x2, x3, w10, x4, e49.trans x6, x7, by rw [x5]; exact hf5⟩
                      · cases hf5
                    · cases hf5
                  · cases hf5
                · rename_i h7 q7
                  rw [q7]
                  rintro w7 b a e7 m7 rfl
                  subst a
                  exact ⟨(fun _ => ⟨w7, rfl, (e5.trans e6).trans e7, m7, hf5⟩), fun z => nomatch z⟩
                · cases hf5
          · cases hf
        · cases hf
      · rename_i h1 q1
        rw [q1]
        rintro w3 b a e3 m3 rfl
        subst a
        exact ⟨(fun _ => ⟨w3, rfl, e1.trans (e2.trans e3), m3, (e2.trans e3).get hr, hf⟩), fun z => nomatch z⟩
      · cases hf
theorem tDc2_of {H : Hp} (hsl : ∀ j ∈ sl, j ∈ vs) (hsl1 : ∀ j ∈ sl1, j ∈ vs1) (h : tE G (eDc2 fi tg ts fi1 tg1 ts1 kf vf vs vs1) W σ H Q) : tDc2 (tI G fi W) (tG G tg sl) (tT G ts W0) (tI G fi1 W0) (tG G tg1 sl1) (tT G ts1 W0) (tE G kf W0) (tE G vf W0) vs vs1 σ H Q := by
  obtain ⟨us, w, rfl, m, sl0, h⟩ := h
  refine ⟨us, w, rfl, m, sl0, (Pt.bind (Rel := JR G) h).imp ?_⟩
  rintro J H1 ⟨w1, src, rfl, e1, m1, hJ, h1⟩
  intro D hD
  cases src with
  | dyn it => exact h1.elim
  | fix xs =>
    dsimp only at h1
    split at h1
    · rename_i hEnd q
      exact dc_loop (w0 := w1) m1 (Ext.refl _) m1 (sl0.up m e1) hJ hD q hsl hsl1 h1
    · exact h1.elim
end
/-- y = {k: v for .. for ..} -/
theorem s_setDc2 {X : Cx} {G : Cfg} {W : WX} {tg tg1 : Tgt} {sl sl1 vs1 : List Nat} {ts ts1 : EvB} {fi fi1 : EvI} {kf vf : Ev} {i : Nat} {y : Str} {py spos : Pos} {kx vx t0 i0 t1 i1 : Expr} {ifs ifs1 : List Expr} {scope : Scope} {own : List (Str × Nat)} {pos : Pos} (hc : X.calm = true) (hN : X.N.Nodup) (hy : X.N[i]? = some y) (hyl : X.env.scope.names.lookup y = some .local)
    (hsw : swapsWith (.DictComp kx vx [⟨t0, i0, ifs, 0⟩, ⟨t1, i1, ifs1, 0⟩] scope pos) (some (.Name y py)) spos.line X.env = pure true) (hi : PI X t0 i0 (tI G fi W)) (ok : BlkOk X.N X.env.scope scope own) (hv : ∀ i ∈ vs1, i ∈ own.map (·.2))
    (hb : ∀ (s : Shared) (H : Hp) (C : Addr) (cl : List (Str × Addr)) (fp : List Addr), let Y := X.blk s H scope (compEnvC scope cl C X.env) fp; PG Y t0 (tG G tg sl) ∧ PTs Y ifs (tT G ts W0) ∧ PI Y t1 i1 (tI G fi1 W0) ∧ PG Y t1 (tG G tg1 sl1) ∧ PTs Y ifs1 (tT G ts1 W0) ∧ PE Y kx (tE G kf W0) ∧ PE Y vx (tE G vf W0))
    (hsl : ∀ j ∈ sl, j ∈ own.map (·.2)) (hsl1 : ∀ j ∈ sl1, j ∈ vs1) (hs : ∀ x, foldedSetIterable i0 X.env x = pure x := by intro _; rfl) (hs1 : ∀ env x, foldedSetIterable i1 env x = pure x := by intro _ _; rfl) :
    PS X (.Assign [.Name y py] (.DictComp kx vx [⟨t0, i0, ifs, 0⟩, ⟨t1, i1, ifs1, 0⟩] scope pos) spos) (tS G (gSet i (eDc2 fi tg ts fi1 tg1 ts1 kf vf (own.map (·.2)) vs1)) W) :=
  PS.imp (ps_setDc2 hc hN hy hyl hsw hi ok hv hb hs hs1) fun _ _ _ h => tDc2_of hsl hsl1 (set_of h)
/-- d[k] -/
def kDget (x y : U) (h : List UO) : Rs U := match x, keyU y with
  | .ref p, some k => (match h[p]? with | some (.dk kvs) => (match valU kvs k with | some u => .ok u h | none => .no) | _ => .no)
  | _, _ => .no
theorem f_dget {X : Cx} {G : Cfg} {W : WX} {kk : Nat} {a b : Expr} {fa fb : Ev} {pos : Pos} (hr : Room kk X.A) (ha : PE X a (tE G fa W)) (hb : PE X b (tE G fb W)) (hs : NoSl b := by exact fun _ _ => rfl) : PE X (.Subscript a b pos) (tE G (e2 kDget fa fb) W) :=
  PE.imp (pe_dget (hu_of hr) ha hb hs) fun σ _ Q ⟨us, w, e, m, sl, h⟩ => by
    subst e
    refine ⟨us, w, rfl, m, sl, (Pt.bind (Rel := R G) h).imp ?_⟩
    rintro x H1 ⟨w1, u, rfl, e1, m1, r1, h1⟩
    refine ⟨us, w1, rfl, m1, sl.up m e1, (Pt.bind (Rel := R G) h1).imp ?_⟩
    rintro y H2 ⟨w2, v, rfl, e2, m2, r2, h2⟩
    have r1 := r1.up m1 e2
    unfold kDget at h2
    split at h2
    · rename_i k hk _
      cases r1 with
      | @ref _ d hr =>
        split at h2
        · rename_i kvs q
          split at h2
          · rename_i u q2
            cases m2.obj _ _ _ hr q with
            | @dk _ ws hv l =>
              obtain ⟨vv, q3, rv⟩ := (RK.of l).val q2
              refine ⟨d, vv, rfl, .inl ⟨_, k, .inl hv, keyU_of r2 hk, q3.symm⟩, h2.val m2 rv⟩
          · exact h2.elim
        · exact h2.elim
    · exact h2.elim
end Fn
/-! list comprehensions with two for clauses; sorted(.., reverse=..) -/
namespace Fn
open PySem L2 PySem.Spec PyProof.Rows
def appP (p : Nat) (u : U) (h : List UO) : Rs Unit := match h[p]? with
  | some (.lst acc) => (match szOk (acc.length + 1) with | true => .ok () (h.set p (.lst (acc ++ [u]))) | false => .no)
  | _ => .no
theorem appP_of {G : Cfg} {w : Wd} {p : Nat} {D : Addr} {u : U} {v : V} {h' : List UO} (m : Sm G w) (hr : w.r[p]? = some D) (r : R G w u v) (h : appP p u w.h = .ok () h') :
    ∃ acc, w.H D = some (.lst acc) ∧ acc.length < sizeLine ∧ ∃ w' : Wd, w'.H = upd w.H D (.lst (acc ++ [v])) ∧ w'.h = h' ∧ Ext w w' ∧ Sm G w' := by
  unfold appP at h
  split at h
  · rename_i acc hp
    split at h
    · rename_i hz
      cases h
      cases m.obj _ _ _ hr hp with
      | @lst _ ws hv l =>
        obtain ⟨ex, sm⟩ := putL (vs := ws) m hr hp (l.append (.one r))
        refine ⟨ws, hv, ?_, _, rfl, rfl, ex, sm⟩
        have := szOk_le hz
        rw [← l.length]; omega
    · cases h
  · cases h
def lcI (tg1 : Tgt) (ts1 : EvB) (el : Ev) (p : Nat) (us : Lo) : List U → List UO → Rs Unit
  | [], h => .ok () h
  | x :: r, h => match tg1 x us with
    | none => .no
    | some us1 => match ts1 us1 h with
      | .ok true h1 => (match el us1 h1 with
        | .ok u h2 => (match appP p u h2 with
          | .ok _ h4 => lcI tg1 ts1 el p us r h4
          | _ => .no)
        | _ => .no)
      | .ok false h1 => lcI tg1 ts1 el p us r h1
      | _ => .no
def lcO (tg : Tgt) (ts : EvB) (fi1 : EvI) (tg1 : Tgt) (ts1 : EvB) (el : Ev) (vs1 : List Nat) (p : Nat) (us : Lo) : List U → List UO → Rs Unit
  | [], h => .ok () h
  | x :: r, h => match tg x us with
    | none => .no
    | some us1 => match ts us1 h with
      | .ok true h1 => (match fi1 us1 h1 with
        | .ok (.fix xs) h2 => (match lcI tg1 ts1 el p (wipeU us1 vs1) xs h2 with
          | .ok _ h3 => lcO tg ts fi1 tg1 ts1 el vs1 p us r h3
          | _ => .no)
        | _ => .no)
      | .ok false h1 => lcO tg ts fi1 tg1 ts1 el vs1 p us r h1
      | _ => .no
/-- [x for .. for ..], tracked -/
def eLc2 (fi : EvI) (tg : Tgt) (ts : EvB) (fi1 : EvI) (tg1 : Tgt) (ts1 : EvB) (el : Ev) (vs vs1 : List Nat) : Ev := fun us h => (fi us h).bind fun s h1 => match s with
  | .fix xs => (match lcO tg ts fi1 tg1 ts1 el vs1 h1.length (wipeU us vs) xs (h1 ++ [.lst []]) with | .ok _ h2 => .ok (.ref h1.length) h2 | _ => .no)
  | .dyn _ => .no
/-- the inner loop, as HandS asks it -/
def lcIn (g1 : TG) (tt1 : TT) (te : TE) (vs1 : List Nat) (D : Addr) (N0 : Hp → Prop) (σ2 : L2.St) (J1 : It) (H4 : Hp) : Prop := ∃ W1 : Nat → Nat → Hp → Prop, (∃ m, W1 0 m H4) ∧
  ∀ j k H, W1 j k H → (J1.stop j H ∧ N0 H) ∨ (J1.go j H ∧ ∃ N1 : Hp → Prop, (∀ H', N1 H' → ∃ k', k' < k ∧ W1 (j + 1) k' H') ∧
    ∀ x H', J1.yld j H x H' → g1 x (L2.wipe σ2 vs1) H' fun σ3 H5 => L2.wipe σ3 vs1 = L2.wipe σ2 vs1 ∧ tt1 σ3 H5 fun b H6 =>
      if b = true then te σ3 H6 fun y H7 => ∃ acc, H7 D = some (.lst acc) ∧ acc.length < sizeLine ∧ N1 (upd H7 D (.lst (acc ++ [y]))) else N1 H6)
section
variable {G : Cfg} {W : WX} {tg tg1 : Tgt} {sl sl1 vs vs1 : List Nat} {ts ts1 : EvB} {fi fi1 : EvI} {kf : Ev} {us : Lo} {σ : L2.St} {Q : VK}
theorem lc2_loop {w0 w1 : Wd} {xs : List U} {J : It} {D : Addr} {hEnd : List UO} (m0 : Sm G w0) (e01 : Ext w0 w1) (m1 : Sm G w1) (sl0 : SL G w1 us σ) (hJ : JR G w1 (.fix xs) J) (hD : w1.H D = none)
    (h0 : lcO tg ts fi1 tg1 ts1 kf vs1 w1.h.length (wipeU us vs) xs (w1.h ++ [.lst []]) = .ok () hEnd) (hsl : ∀ j ∈ sl, j ∈ vs) (hsl1 : ∀ j ∈ sl1, j ∈ vs1) (h : Pt G (R G) W σ w0 (.ok (.ref w1.h.length) hEnd) Q) :
    ∃ Wc : Nat → Nat → Hp → Prop, (∃ m, Wc 0 m (upd w1.H D (.lst []))) ∧ ∀ i m H, Wc i m H → (J.stop i H ∧ Q (.ref D) H) ∨ (J.go i H ∧ ∃ N0 : Hp → Prop, (∀ H', N0 H' → ∃ m', m' < m ∧ Wc (i + 1) m' H') ∧
      ∀ x H', J.yld i H x H' → tG G tg sl x (L2.wipe σ vs) H' fun σ2 H2 => L2.wipe σ2 vs = L2.wipe σ vs ∧ tT G ts W0 σ2 H2 fun b H3 => if b = true then tI G fi1 W0 σ2 H3 (lcIn (tG G tg1 sl1) (tT G ts1 W0) (tE G kf W0) vs1 D N0 σ2) else N0 H3) := by
  generalize hp : w1.h.length = p at h0 h
  obtain ⟨w2, b1, b2, b3, b4, b5⟩ := toTrackedO (o := .lst []) (Ext.newZ (o := .lst []) hD) (m1.newZ hD) (fun w'' le => .lst (vs := []) (by rw [le.H]; exact upd_same) .nil) hD (.inr rfl) (m1.free_r hD)
  have b1 : w2.h = w1.h ++ [.lst []] := b1
  have hr2 : w2.r[p]? = some D := by
    rw [← hp]
    cases b5 with
    | ref q => exact q
  refine ⟨fun i m H => ∃ w, w.H = H ∧ Ext w1 w ∧ Sm G w ∧ w.r[p]? = some D ∧ lcO tg ts fi1 tg1 ts1 kf vs1 p (wipeU us vs) (xs.drop i) w.h = .ok () hEnd ∧ m + i = xs.length, ⟨xs.length, w2, b2, b3, b4, hr2, by rw [b1]; exact h0, by omega⟩, ?_⟩
  rintro i m _ ⟨w, rfl, e1, mw, hr, hf, hm⟩
  have hj := hJ w e1 mw i
  have ha : (Src.fix xs).at i w.h = some xs[i]? := rfl
  rw [ha] at hj
  cases q : xs[i]? with
  | none =>
    rw [q] at hj
    rw [List.drop_eq_nil_of_le (List.getElem?_eq_none_iff.mp q)] at hf
    unfold lcO at hf
    cases hf
    exact .inl ⟨hj, h w _ rfl (e01.trans e1) mw (.ref hr)⟩
  | some u =>
    rw [q] at hj
    obtain ⟨go, yld⟩ := hj
    obtain ⟨hi, ei⟩ := List.getElem?_eq_some_iff.mp q
    rw [List.drop_eq_getElem_cons hi, ei] at hf
    unfold lcO at hf
    refine .inr ⟨go, fun H' => ∃ w, w.H = H' ∧ Ext w1 w ∧ Sm G w ∧ w.r[p]? = some D ∧ lcO tg ts fi1 tg1 ts1 kf vs1 p (wipeU us vs) (xs.drop (i + 1)) w.h = .ok () hEnd, fun H' ⟨w2, x1, x2, x3, x4, x5⟩ => ⟨m - 1, by omega, w2, x1, x2, x3, x4, x5, by omega⟩, fun x H' hy => ?_⟩
    obtain ⟨w2, rfl, eh, e2, m2, r2⟩ := yld x H' hy
    refine ⟨u, wipeU us vs, w2, rfl, m2, ((sl0.up m1 (e1.trans e2)).wipe vs), r2, ?_⟩
    split at hf
    · cases hf
    · rename_i us1 qt
      rw [qt]
      intro σ2 sl2 ag
      refine ⟨wipe_eq ag.1 ag.2 hsl, us1, w2, rfl, m2, sl2, ?_⟩
      rw [eh]
      split at hf
      · rename_i h1 q1
        rw [q1]
        rintro w3 b a e3 m3 rfl
        subst a
        rw [if_pos rfl]
        refine ⟨us1, w3, rfl, m3, sl2.up m2 e3, ?_⟩
        split at hf
        · rename_i ys h2 q2
          rw [q2]
          rintro w4 J1 a e4 m4 hJ1
          subst a
          have e14 : Ext w1 w4 := e1.trans (e2.trans (e3.trans e4))
          have hr4 : w4.r[p]? = some D := (e2.trans (e3.trans e4)).get hr
          have sl4 : SL G w4 us1 σ2 := (sl2.up m2 e3).up m3 e4
          split at hf
          · rename_i h3 q3
            refine ⟨fun j k H => ∃ w5, w5.H = H ∧ Ext w4 w5 ∧ Sm G w5 ∧ lcI tg1 ts1 kf p (wipeU us1 vs1) (ys.drop j) w5.h = .ok () h3 ∧ k + j = ys.length, ⟨ys.length, w4, rfl, Ext.refl _, m4, q3, by omega⟩, ?_⟩
            rintro j k _ ⟨w5, rfl, e5, m5, hf5, hk⟩
            have hj5 := hJ1 w5 e5 m5 j
            have ha5 : (Src.fix ys).at j w5.h = some ys[j]? := rfl
            rw [ha5] at hj5
            cases q5 : ys[j]? with
            | none =>
              rw [q5] at hj5
              rw [List.drop_eq_nil_of_le (List.getElem?_eq_none_iff.mp q5)] at hf5
              unfold lcI at hf5
              cases hf5
              exact .inl ⟨hj5, w5, rfl, e14.trans e5, m5, e5.get hr4, hf⟩
            | some u5 =>
              rw [q5] at hj5
              obtain ⟨go5, yld5⟩ := hj5
              obtain ⟨hi5, ei5⟩ := List.getElem?_eq_some_iff.mp q5
              rw [List.drop_eq_getElem_cons hi5, ei5] at hf5
              unfold lcI at hf5
              refine .inr ⟨go5, fun H' => ∃ w5, w5.H = H' ∧ Ext w4 w5 ∧ Sm G w5 ∧ lcI tg1 ts1 kf p (wipeU us1 vs1) (ys.drop (j + 1)) w5.h = .ok () h3, fun H' ⟨w6, x1, x2, x3, x4⟩ => ⟨k - 1, by omega, w6, x1, x2, x3, x4, by omega⟩, fun x H' hy => ?_⟩
              obtain ⟨w6, rfl, eh6, e6, m6, r6⟩ := yld5 x H' hy
              refine ⟨u5, wipeU us1 vs1, w6, rfl, m6, (sl4.up m4 (e5.trans e6)).wipe vs1, r6, ?_⟩
              split at hf5
              · cases hf5
              · rename_i us6 qt6
                rw [qt6]
                intro σ3 sl7 ag7
                refine ⟨wipe_eq ag7.1 ag7.2 (fun j hj => hsl1 j hj), us6, w6, rfl, m6, sl7, ?_⟩
                rw [eh6]
                split at hf5
                · rename_i h7 q7
                  rw [q7]
                  rintro w7 b a e7 m7 rfl
                  subst a
                  rw [if_pos rfl]
                  refine ⟨us6, w7, rfl, m7, sl7.up m6 e7, ?_⟩
                  split at hf5
                  · rename_i ku h8 q8
                    rw [q8]
                    rintro w8 vk a e8 m8 r8
                    subst a
                    have e48 : Ext w4 w8 := ((e5.trans e6).trans e7).trans e8
                    split at hf5
                    · rename_i h10 q10
                      obtain ⟨acc, x1, x2, w10, x4, x5, x6, x7⟩ := appP_of m8 (e48.get hr4) r8 q10
                      exact ⟨acc, x1, x2, w10, x4, e48.trans x6, x7, by rw [x5]; exact hf5⟩
                    · cases hf5
                  · cases hf5
                · rename_i h7 q7
                  rw [q7]
                  rintro w7 b a e7 m7 rfl
                  subst a
                  rw [if_neg (by decide)]
                  exact ⟨w7, rfl, (e5.trans e6).trans e7, m7, hf5⟩
                · cases hf5
          · cases hf
        · cases hf
      · rename_i h1 q1
        rw [q1]
        rintro w3 b a e3 m3 rfl
        subst a
        rw [if_neg (by decide)]
        exact ⟨w3, rfl, e1.trans (e2.trans e3), m3, (e2.trans e3).get hr, hf⟩
      · cases hf
theorem tLc2_of {H : Hp} (hsl : ∀ j ∈ sl, j ∈ vs) (hsl1 : ∀ j ∈ sl1, j ∈ vs1) (h : tE G (eLc2 fi tg ts fi1 tg1 ts1 kf vs vs1) W σ H Q) : tLc2 (tI G fi W) (tG G tg sl) (tT G ts W0) (tI G fi1 W0) (tG G tg1 sl1) (tT G ts1 W0) (tE G kf W0) vs vs1 σ H Q := by
  obtain ⟨us, w, rfl, m, sl0, h⟩ := h
  refine ⟨us, w, rfl, m, sl0, (Pt.bind (Rel := JR G) h).imp ?_⟩
  rintro J H1 ⟨w1, src, rfl, e1, m1, hJ, h1⟩
  intro D hD
  cases src with
  | dyn it => exact h1.elim
  | fix xs =>
    dsimp only at h1
    split at h1
    · rename_i hEnd q
      exact lc2_loop (w0 := w1) m1 (Ext.refl _) m1 (sl0.up m e1) hJ hD q hsl hsl1 h1
    · exact h1.elim
end
section
variable {X : Cx} {G : Cfg} {W : WX} {tg tg1 : Tgt} {sl sl1 vs1 : List Nat} {ts ts1 : EvB} {fi fi1 : EvI} {fe : Ev} {elt t0 i0 t1 i1 : Expr} {ifs ifs1 : List Expr} {scope : Scope} {own : List (Str × Nat)} {pos : Pos}
theorem f_lc2 (hc : X.calm = true) (hN : X.N.Nodup) (hi : PI X t0 i0 (tI G fi W)) (ok : BlkOk X.N X.env.scope scope own) (hv : ∀ i ∈ vs1, i ∈ own.map (·.2))
    (hb : ∀ (s : Shared) (H : Hp) (C : Addr) (cl : List (Str × Addr)) (fp : List Addr), let Y := X.blk s H scope (compEnvC scope cl C X.env) fp; PG Y t0 (tG G tg sl) ∧ PTs Y ifs (tT G ts W0) ∧ PI Y t1 i1 (tI G fi1 W0) ∧ PG Y t1 (tG G tg1 sl1) ∧ PTs Y ifs1 (tT G ts1 W0) ∧ PE Y elt (tE G fe W0))
    (hsl : ∀ j ∈ sl, j ∈ own.map (·.2)) (hsl1 : ∀ j ∈ sl1, j ∈ vs1) (hs : ∀ x, foldedSetIterable i0 X.env x = pure x := by intro _; rfl) (hs1 : ∀ env x, foldedSetIterable i1 env x = pure x := by intro _ _; rfl) :
    PE X (.ListComp elt [⟨t0, i0, ifs, 0⟩, ⟨t1, i1, ifs1, 0⟩] scope pos) (tE G (eLc2 fi tg ts fi1 tg1 ts1 fe (own.map (·.2)) vs1) W) :=
  PE.imp (pe_lc2 hc hN hi ok hv (fun s H C cl fp => (hb s H C cl fp).1) (fun s H C cl fp => (hb s H C cl fp).2.1) (fun s H C cl fp => (hb s H C cl fp).2.2.1) (fun s H C cl fp => (hb s H C cl fp).2.2.2.1) (fun s H C cl fp => (hb s H C cl fp).2.2.2.2.1) (fun s H C cl fp => (hb s H C cl fp).2.2.2.2.2) hs hs1) fun _ _ _ h => tLc2_of hsl hsl1 h
theorem s_setLc2 {i : Nat} {y : Str} {py spos : Pos} (hc : X.calm = true) (hN : X.N.Nodup) (hy : X.N[i]? = some y) (hyl : X.env.scope.names.lookup y = some .local)
    (hsw : swapsWith (.ListComp elt [⟨t0, i0, ifs, 0⟩, ⟨t1, i1, ifs1, 0⟩] scope pos) (some (.Name y py)) spos.line X.env = pure true) (hi : PI X t0 i0 (tI G fi W)) (ok : BlkOk X.N X.env.scope scope own) (hv : ∀ i ∈ vs1, i ∈ own.map (·.2))
    (hb : ∀ (s : Shared) (H : Hp) (C : Addr) (cl : List (Str × Addr)) (fp : List Addr), let Y := X.blk s H scope (compEnvC scope cl C X.env) fp; PG Y t0 (tG G tg sl) ∧ PTs Y ifs (tT G ts W0) ∧ PI Y t1 i1 (tI G fi1 W0) ∧ PG Y t1 (tG G tg1 sl1) ∧ PTs Y ifs1 (tT G ts1 W0) ∧ PE Y elt (tE G fe W0))
    (hsl : ∀ j ∈ sl, j ∈ own.map (·.2)) (hsl1 : ∀ j ∈ sl1, j ∈ vs1) (hs : ∀ x, foldedSetIterable i0 X.env x = pure x := by intro _; rfl) (hs1 : ∀ env x, foldedSetIterable i1 env x = pure x := by intro _ _; rfl) :
    PS X (.Assign [.Name y py] (.ListComp elt [⟨t0, i0, ifs, 0⟩, ⟨t1, i1, ifs1, 0⟩] scope pos) spos) (tS G (gSet i (eLc2 fi tg ts fi1 tg1 ts1 fe (own.map (·.2)) vs1)) W) :=
  PS.imp (ps_setLc2 hc hN hy hyl hsw hi ok hv (fun s H C cl fp => (hb s H C cl fp).1) (fun s H C cl fp => (hb s H C cl fp).2.1) (fun s H C cl fp => (hb s H C cl fp).2.2.1) (fun s H C cl fp => (hb s H C cl fp).2.2.2.1) (fun s H C cl fp => (hb s H C cl fp).2.2.2.2.1) (fun s H C cl fp => (hb s H C cl fp).2.2.2.2.2) hs hs1) fun _ _ _ h => tLc2_of hsl hsl1 (set_of h)
end
/-! ### sorted(xs, reverse=True) -/
def kSortedR (x d : U) (h : List UO) : Rs U := match d with
  | .bl true => (match lstU h x with | some xs => (match toInts xs with | some ns => .ok (.fl ((sortI ns).reverse.map .int)) h | none => .no) | none => .no)
  | _ => .no
theorem f_sortedRev {X : Cx} {G : Cfg} {W : WX} {a b : Expr} {fa fb : Ev} {pos p kp : Pos} (hK : X.K = G.K) (hg : Gl X "sorted") (hm : X.mg "sorted" = none) (ha : PE X a (tE G fa W)) (hb : PE X b (tE G fb W))
    (na : starEach [a] X.env = (false, eval a X.env) :: starEach [] X.env := by rfl) (he : backTo pos (starEach [a] X.env) = (false, eval a X.env) :: backTo pos (starEach [] X.env) := by rfl) (hpl : (backTo pos (starEach [a] X.env)).any (·.1) = false := by rfl)
    (hall : (backToKw pos (keywordEach [⟨some "reverse", b, kp⟩] X.env)).all (·.1.isSome) = true := by rfl) (hnone : (backToKw pos (keywordEach [⟨some "reverse", b, kp⟩] X.env)).any (·.1.isNone) = false := by rfl) (hks : (backToKw pos (keywordEach [⟨some "reverse", b, kp⟩] X.env)).filterMap (·.1) = [Str.ofString "reverse"] := by rfl) :
    PE X (.Call (.Name "sorted" p) [a] [⟨some "reverse", b, kp⟩] pos) (tE G (e2 kSortedR fa fb) W) :=
  PE.imp (pe_callBK (r := rSortedKw X.K true [.bl true]) cr_sortedRev hg hm (by decide +kernel) (pa_cons ha pa_nil na) (pk_cons hb pk_nil) (he := he) (hpl := hpl) (hall := hall) (hnone := hnone) (hks := hks)) fun σ H Q h => by
    refine two_of (r := fun x y H Q => rSortedKw X.K true [.bl true] [x] [y] H Q) ?_ h
    intro w σ W x y va vb Q m rx ry h
    unfold kSortedR at h
    split at h
    · cases ry
      split at h
      · rename_i xs q
        split at h
        · rename_i ns q2
          obtain ⟨p, vs, rfl, hs, l⟩ := lstU_of m rx q
          obtain ⟨rfl, _⟩ := toInts_of l q2
          refine ⟨p, ns, rfl, rfl, by rw [hK]; exact hs, fun ns' p hp ho hn => ?_⟩
          have e : ns' = (sortI ns).reverse := sortI_rev hp ho
          subst e
          exact h.newF m RL.ints hn
        · exact h.elim
      · exact h.elim
    · exact h.elim
end Fn
/-! t[::-1] of a tuple, tuple(reversed(xs)), list(reversed(xs)) -/
namespace Fn
open PySem L2 PySem.Spec PyProof.Rows
section
variable {prog : Program} {w : World} {A : Around} {E : Value → Shared → Prop} {s : Shared}
theorem adjust_back (n : Nat) : Builtin.Slice.sliceAdjust none none (-1) (n : Int) = ((n : Int) - 1, -1) := by
  unfold Builtin.Slice.sliceAdjust
  simp
theorem places_back (n : Nat) : Builtin.Slice.slicePlaces ((n : Int) - 1) (-1) (-1) = n := by
  unfold Builtin.Slice.slicePlaces
  have h1 : ¬ ((-1 : Int) > 0) := by omega
  simp only [h1, if_false]
  split <;> simp <;> omega
theorem fm_congr {α β : Type} {f g : α → Option β} : ∀ l : List α, (∀ k ∈ l, f k = g k) → l.filterMap f = l.filterMap g
  | [], _ => rfl
  | x :: r, h => by rw [List.filterMap_cons, List.filterMap_cons, h x List.mem_cons_self, fm_congr r fun k hk => h k (List.mem_cons_of_mem _ hk)]
theorem pick_back (xs : Array Value) : ((List.range xs.size).filterMap fun (k : Nat) => xs[(((xs.size : Int) - 1) + (k : Int) * (-1)).toNat]?).toArray = xs.toList.reverse.toArray := by
  congr 1
  have key : ∀ l : List Nat, (∀ k ∈ l, k < xs.size) → (l.filterMap fun (k : Nat) => xs[(((xs.size : Int) - 1) + (k : Int) * (-1)).toNat]?) = l.filterMap fun k => xs.toList.reverse[k]? := fun l hl => by
    refine fm_congr l fun k hk => ?_
    have hk := hl k hk
    have e : (((xs.size : Int) - 1) + (k : Int) * (-1)).toNat = xs.size - 1 - k := by omega
    rw [e, List.getElem?_reverse (by rw [Array.length_toList]; exact hk), Array.length_toList, Array.getElem?_toList]
  rw [key _ fun k hk => List.mem_range.mp hk]
  have all : ∀ l : List Value, ((List.range l.length).filterMap fun k => l[k]?) = l := fun l => by
    induction l with
    | nil => rfl
    | cons x r ih =>
      rw [List.length_cons, List.range_succ_eq_map, List.filterMap_cons]
      simp only [List.getElem?_cons_zero]
      rw [List.filterMap_map]
      congr 1
  have hl : xs.size = xs.toList.reverse.length := by rw [List.length_reverse, Array.length_toList]
  rw [hl]
  exact all _
theorem getItem_tuple_back {t sl : Addr} {items : Array Value} {vs : Value} {Q : Value → Shared → Prop} (ht : IsTup s.heap t items) (hs : s.heap.IsSliceOf sl .none .none vs) (ps : IsPart vs (some (-1)))
    (h : Q (.ref s.heap.objs.size) { s with heap := s.heap.push { cls := .type "tuple", data := .seq items.toList.reverse.toArray } }) (hsz : items.size ≤ sizeLine) : wpAny (model prog w) A (getItem (.ref t) (.ref sl)) Q E s := by
  have hz : sizeOk (.seq items.toList.reverse.toArray) := by
    show items.toList.reverse.toArray.size ≤ sizeLine
    rw [List.size_toArray, List.length_reverse, Array.length_toList]
    exact hsz
  obtain ⟨os, hos, hcs, hds⟩ := id hs
  have hT : s.TypeIs (.ref sl) "slice" := ⟨os, hos, hcs⟩
  unfold getItem
  try with_reducible refine wpAny_holding ?_
  first | refine wpAny_bind (wpAny_pure ?_) | skip
  refine wpAny_bind (wpAny_sequenceKey ht.typeIs (by decide) (wpAny_bind (wpAny_callSpecial?_slot (name := Str.ofString "__getitem__") ht.typeIs PyProof.Rows.slot_tuple_getitem (wpAny_call_entry PyProof.Rows.slot_tuple_getitem ht.typeIs entry_tuple_getitem ?_ (args_tuple_getitem _ _)))))
  show wpAny _ _ (Builtin.Tuple.tupleItemsOf (.ref t) >>= _) _ _ s
  refine wpAny_bind (tupleItemsOf_ ht (wpAny_bind (wpAny_typeOf hT ?_)))
  rw [if_pos (by decide)]
  have app : ∀ {A' : Around} {E : Value → Shared → Prop} {Q' : Int × Int × Nat → Shared → Prop}, Q' ((items.size : Int) - 1, -1, items.size) s → wpAny (model prog w) A' (Builtin.Slice.sliceApplied (.ref sl) (pure (items.size : Int))) Q' E s := fun {A' E Q'} q => by
    unfold Builtin.Slice.sliceApplied Builtin.Slice.sliceFields
    refine wpAny_bind (wpAny_bind (wpAny_field hos hds (x := Value.none) rfl (wpAny_bind (wpAny_field hos hds (x := Value.none) rfl (wpAny_bind (wpAny_field hos hds (x := vs) rfl (wpAny_pure ?_)))))))
    refine wpAny_bind (HT.slicePart_ ps ?_)
    show wpAny _ _ (if ((-1 : Int) == 0) = true then _ else _) _ _ s
    rw [if_neg (by decide)]
    refine wpAny_bind (HT.slicePart_ .none (wpAny_bind (HT.slicePart_ .none (wpAny_bind (wpAny_pure ?_)))))
    show wpAny _ _ (match Builtin.Slice.sliceAdjust none none (-1) (items.size : Int) with | (lo, hi) => pure (lo, (-1 : Int), Builtin.Slice.slicePlaces lo hi (-1))) _ _ s
    rw [adjust_back]
    show wpAny _ _ (pure ((items.size : Int) - 1, (-1 : Int), Builtin.Slice.slicePlaces ((items.size : Int) - 1) (-1) (-1))) _ _ s
    rw [places_back]
    exact wpAny_pure q
  refine wpAny_bind (app ?_)
  show wpAny _ _ (if (((items.size : Int) - 1) == 0 && (-1 : Int) == 1 && items.size == items.size) = true then _ else _) _ _ s
  rw [if_neg (by intro z; rw [Bool.and_eq_true, Bool.and_eq_true] at z; exact absurd z.1.2 (by decide)), pick_back]
  first
    | exact wpAny_bind (m := Builtin.Tuple.tupleExact _) (wpAny_newObj_type (wpAny_pure ⟨_, rfl, wpAny_pure h⟩) hz)
    | exact wpAny_bind (m := Builtin.Tuple.tupleExact _) (wpAny_newObj_type (wpAny_bind (wpAny_pure (wpAny_pure ⟨_, rfl, wpAny_pure h⟩))) hz)
    | exact wpAny_bind (wpAny_bind (m := Builtin.Tuple.tupleExact _) (wpAny_newObj_type (wpAny_pure (wpAny_pure ⟨_, rfl, wpAny_pure h⟩)) hz))
    | exact wpAny_bind (wpAny_bind (m := Builtin.Tuple.tupleExact _) (wpAny_newObj_type (wpAny_pure ⟨_, rfl, wpAny_pure h⟩) hz))
end
/-- t[::-1] -/
theorem pe_revT {X : Cx} {e : Expr} {te : TE} {k : Nat} {p1 p2 p3 pos : Pos} (he : PE X e te) : PE X (.Subscript e (.Slice none none (some (.UnaryOp .USub (.Constant (.int 1) k p1) p2)) p3) pos) (fun σ H Q => te σ H fun x H1 => ∃ a xs, x = .ref a ∧ SqT X.K H1 a xs ∧ ∀ p, H1 p = none → Q (.ref p) (upd H1 p (.tup xs.reverse))) := by
  refine ⟨fun pins s σ H Q I h => ?_⟩
  refine Subscript_ (thn (he.run pins s σ H _ I h) fun v s1 ⟨x, H1, I1, r1, a, xs, ex, hx, q⟩ => ?_)
  subst ex
  cases r1
  have neg1 : PO X (some (.UnaryOp .USub (.Constant (.int 1) k p1) p2)) (tPart (tUn (rU fun i => .int (-i)) (tC (.int 1)))) := po_some (pe_un un_neg pe_int)
  refine wpAny_Slice (thn (po_none.run pins s1 σ H1 (fun o H2 => o = none ∧ H2 = H1) I1 ⟨rfl, rfl⟩) fun vl s2 ⟨l, H2, I2, pl, el, e2⟩ => ?_)
  subst el e2
  refine thn (po_none.run pins s2 σ H2 (fun o H3 => o = none ∧ H3 = H2) I2 ⟨rfl, rfl⟩) fun vu s3 ⟨u, H3, I3, pu, eu, e3⟩ => ?_
  subst eu e3
  refine thn (neg1.run pins s3 σ H3 (fun o H4 => o = some (-1) ∧ H4 = H3) I3 ⟨1, rfl, -1, rfl, rfl, rfl⟩) fun vs s4 ⟨o, H4, I4, ps, eo, e4⟩ => ?_
  subst eo e4
  cases pl
  cases pu
  have I5 : Inv X pins σ H4 { s4 with heap := s4.heap.push { cls := .type "slice", data := .fields #[Value.none, Value.none, vs] } } := I4.kept (t' := s4.toks) fun b ob z => Heap.get?_push_of_some _ z
  obtain ⟨its, r, ht, hz⟩ := I5.tuple hx
  show wpAny (model X.prog X.w) X.A (subscriptTail e (.Slice none none (some (.UnaryOp .USub (.Constant (.int 1) k p1) p2)) p3) (.ref a) (.ref s4.heap.objs.size)) (EP X pins σ Q) X.xe { s4 with heap := s4.heap.push { cls := .type "slice", data := .fields #[Value.none, Value.none, vs] } }
  refine tail_any (ops := [.ref a, .ref s4.heap.objs.size]) ht.typeIs (PyProof.Rows.slot_tuple_getitem.lookup) ?_ (by with_unfolding_all rfl)
  refine getItem_tuple_back ht (Heap.IsSliceOf.new _ .none .none vs) ps ?_ (by rw [List.size_toArray, ← r.length]; exact hz)
  refine ⟨.ref _, _, I5.laid (t' := s4.toks) (o := .tup xs.reverse) (fun b ob z => Heap.get?_push_of_some _ z) (Nat.le_refl _) ?_, rfl, q _ (I5.hok.fresh (Nat.le_refl _))⟩
  exact ⟨by rw [List.length_reverse]; exact hz, its.reverse, r.reverse, IsTup.new _ _⟩
def kRevT (x : U) (h : List UO) : Rs U := match x with | .tup xs => .ok (.tup xs.reverse) h | _ => .no
theorem f_revT {X : Cx} {G : Cfg} {W : WX} {e : Expr} {fe : Ev} {k : Nat} {p1 p2 p3 pos : Pos} (hK : X.K = G.K) (he : PE X e (tE G fe W)) : PE X (.Subscript e (.Slice none none (some (.UnaryOp .USub (.Constant (.int 1) k p1) p2)) p3) pos) (tE G (e1 kRevT fe) W) :=
  PE.imp (pe_revT he) fun σ _ Q ⟨us, w, e, m, sl, h⟩ => by
    subst e
    refine ⟨us, w, rfl, m, sl, (Pt.bind (Rel := R G) h).imp ?_⟩
    rintro x H1 ⟨w1, u, rfl, e1, m1, r1, h1⟩
    unfold kRevT at h1
    split at h1
    · cases r1 with
      | tup hs l => exact ⟨_, _, rfl, hK ▸ hs.1, fun p hp => h1.newT m1 l.reverse hp⟩
    · exact h1.elim
theorem sw_trueD {kx vx : Expr} {gs : List Comprehension} {scope : Scope} {pos py : Pos} {y : Str} {l : Nat} {env : Env} (hk : env.scope.kind = .function) (hy : env.scope.names.lookup y = some .local) (hl : (py.line == pos.line) = true)
    (ha : (scope.names.any fun (n, k) => n == y && (k == .local || k == .cell)) = false) : swapsWith (.DictComp kx vx gs scope pos) (some (.Name y py)) l env = pure true := by
  have ky : env.kindOf y = some .local := hy
  have hb : env.blockKind = .function := by
    unfold Env.blockKind
    rw [hk] <;> rfl
  unfold swapsWith
  simp only [hb, ky, ha, Expr.pos, hl] <;> rfl
end Fn
/-! list(reversed(xs)), tuple(reversed(xs)) -/
namespace Fn
open PySem L2 PySem.Spec PyProof.Rows
section
variable {prog : Program} {w : World} {A : Around} {E : Value → Shared → Prop} {s : Shared}
theorem ext_rev {R : Result → Shared → Prop} {it l S : Addr} {items : Array Value} {res : Value} {c₀ : Nat} (hh : A.handled = none) (hit : s.heap.IsRevIter it l ((items.size : Int) - 1)) (hl : s.heap.IsList l items) (hne : l ≠ it) (hn : items.size ≤ sizeLine)
    (hS : s.heap.get? S = some { cls := .type "list", data := .seq #[] c₀ }) (hSi : S ≠ it) (hSl : S ≠ l)
    (hR : ∀ h' tk acc' c', (∀ b o, b ≠ S → b ≠ it → s.heap.get? b = some o → h'.get? b = some o) → h'.get? S = some { cls := .type "list", dict := none, data := .seq acc' c', slots := #[] } →
      ItemsOf (fun i v => items[items.size - 1 - i]? = some v) acc' items.size → R (.ok (.ret res)) { s with heap := h', toks := tk }) :
    wpAny (model prog w) A.in1 (Builtin.List.listExtendWith (.ref S) (.ref it) res) (fun fin s' => match fin with | .done f => R (.ok f) s' | .again c' => c'.quiet = true ∧ codeAny (model prog w) A c' R s') (fun e s' => R (.error e) s') s := by
  have Wk := (Walks.listRev (prog := prog) (w := w) (A := A.in1) hh it l hne items).toS
  have hSf : S ∉ [it, l] := fun z => by
    rcases List.mem_cons.mp z with z | z
    · exact hSi z
    · exact hSl (List.mem_singleton.mp z)
  have hT : s.TypeIs (.ref it) "list_reverseiterator" := hit.typeIs
  unfold Builtin.List.listExtendWith
  refine wpAny_bind (wpAny_typeOf hT ?_)
  rw [if_neg (by simp [Builtin.List.listSameRef, hSi])]
  refine wpAny_bind (wpAny_pyIter_revIter hit (wpAny_bind (wpAny_holding ?_)))
  unfold Builtin.List.listLengthHint
  refine wpAny_bind (wpAny_specialOf hT RT.nolen_lri ?_)
  show wpAny _ A.in1 (specialOf (Value.ref it) (Str.ofString "__length_hint__") >>= _) _ _ _
  refine wpAny_bind (wpAny_specialOf hT RT.hint_lri ?_)
  generalize hid : ("list_reverseiterator.__length_hint__" : String) = id0
  wp_delta
  rw [show splitId id0 = some ("list_reverseiterator", "__length_hint__") from by subst hid; decide +kernel]
  subst hid
  refine wpAny_bind (wpAny_isInstance (b := true) hT (by rw [isSubtype_type]; kernel_rfl) (wpAny_pure ?_))
  rw [if_neg (by decide)]
  have e0 : ((items.size : Nat) : Int) - 1 - ((0 : Nat) : Int) = (items.size : Int) - 1 := by omega
  refine wpAny_pure ⟨plainId_quiet F.plain_extend_loop _, codeAny_extend_loopS Wk hn S hSf res items.size 0 _ #[] c₀ rfl (Nat.zero_le _) ⟨Nat.zero_le _, by rw [e0]; exact hit, hl⟩ hS (ItemsOf.nil _) fun s' acc' c' hm hS' hacc => ?_⟩
  rw [Moved.eq_with hm]
  refine hR s'.heap s'.toks acc' c' (fun b o hb hb2 e => hm.heap b o (fun z => ?_) e) hS' hacc
  rcases List.mem_cons.mp z with z | z
  · exact hb z
  · exact hb2 (List.mem_singleton.mp z)
theorem init_rev {R : Result → Shared → Prop} {it l S : Addr} {items : Array Value} (hh : A.handled = none) (hit : s.heap.IsRevIter it l ((items.size : Int) - 1)) (hl : s.heap.IsList l items) (hne : l ≠ it) (hn : items.size ≤ sizeLine)
    (hS : s.heap.get? S = some { cls := .type "list", data := .seq #[] }) (hSi : S ≠ it) (hSl : S ≠ l)
    (hR : ∀ h' tk acc' c', (∀ b o, b ≠ S → b ≠ it → s.heap.get? b = some o → h'.get? b = some o) → h'.get? S = some { cls := .type "list", dict := none, data := .seq acc' c', slots := #[] } →
      ItemsOf (fun i v => items[items.size - 1 - i]? = some v) acc' items.size → R (.ok (.ret .none)) { s with heap := h', toks := tk }) :
    wpAny (model prog w) A.in1 (Builtin.«list.__init__» ⟨[.ref S, .ref it], []⟩) (fun fin s' => match fin with | .done f => R (.ok f) s' | .again c' => c'.quiet = true ∧ codeAny (model prog w) A c' R s') (fun e s' => R (.error e) s') s := by
  show wpAny _ _ (do let old ← Builtin.List.listItems (.ref S); Builtin.List.listUpdate (.ref S) (fun _ => #[]); letGo old.toList.reverse; Builtin.List.listExtendWith (.ref S) (.ref it) .none) _ _ s
  refine wpAny_bind ?_
  unfold Builtin.List.listItems
  refine wpAny_bind (wpAny_seqItems hS rfl (wpAny_pure ?_))
  show wpAny _ _ (updateSeq S (fun _ => #[]) >>= fun _ => letGo (#[] : Array Value).toList.reverse >>= fun _ => Builtin.List.listExtendWith (.ref S) (.ref it) .none) _ _ s
  refine wpAny_bind (wpAny_updateSeq hS rfl (wpAny_bind (wpAny_letGo ?_)))
  have oth : ∀ b o, b ≠ S → s.heap.get? b = some o → (s.heap.update S (Obj.mapSeq (fun _ => (#[] : Array Value)))).get? b = some o := fun b o hb e => (Heap.get?_update_other _ _ (Ne.symm hb)).trans e
  have hl2 : (s.heap.update S (Obj.mapSeq (fun _ => (#[] : Array Value)))).IsList l items := by
    obtain ⟨o, e, r⟩ := hl
    exact ⟨o, oth l o (Ne.symm hSl) e, r⟩
  exact ext_rev hh (hit.at fun o e => oth it o (Ne.symm hSi) e) hl2 hne hn (Heap.get?_update_self (Obj.mapSeq (fun _ => (#[] : Array Value))) hS rfl) hSi hSl fun h' tk acc' c' hk hS' hacc => hR h' tk acc' c' (fun b o hb hb2 e => hk b o hb hb2 (oth b o hb e)) hS' hacc
theorem call_list_rev {it l : Addr} {items : Array Value} {Q : Value → Shared → Prop} (hh : A.handled = none) (hit : s.heap.IsRevIter it l ((items.size : Int) - 1)) (hl : s.heap.IsList l items) (hne : l ≠ it) (hn : items.size ≤ sizeLine)
    (hQ : ∀ h' tk acc' c', (∀ b o, b ≠ it → s.heap.get? b = some o → h'.get? b = some o) → h'.get? s.heap.objs.size = some { cls := .type "list", dict := none, data := .seq acc' c', slots := #[] } →
      ItemsOf (fun i v => items[items.size - 1 - i]? = some v) acc' items.size → Q (.ref s.heap.objs.size) { s with heap := h', toks := tk }) :
    wpAny (model prog w) A (call (.type "list") [.ref it]) Q E s := by
  refine callType_codes (Q₁ := fun obj s₁ => obj = .ref s.heap.objs.size ∧ s₁ = { s with heap := s.heap.push { cls := .type "list", data := .seq #[] } }) F.called_list (F.typeCall_list_1 _) F.entry_list_init (code_list_new _ ⟨rfl, rfl⟩) fun obj s₁ h₁ => ?_
  obtain ⟨rfl, rfl⟩ := h₁
  have hS : (s.heap.push { cls := .type "list", data := .seq #[] }).get? s.heap.objs.size = some { cls := .type "list", data := .seq #[] } := Heap.get?_push_size _ rfl
  obtain ⟨oi, hoi, _⟩ := id hit
  obtain ⟨ol, hol, _⟩ := id hl
  refine ⟨⟨_, hS, rfl⟩, F.args_list_init_2 _ _, init_rev (A := A.in1) (s := { s with heap := s.heap.push { cls := .type "list", data := .seq #[] } }) hh (hit.at fun o e => Heap.get?_push_of_some _ e) (hl.push _) hne hn hS (Nat.ne_of_gt (Heap.lt_size hoi)) (Nat.ne_of_gt (Heap.lt_size hol)) fun h' tk acc' c' hk hS' hacc => ?_⟩
  exact ⟨rfl, hQ h' tk acc' c' (fun b o hb e => hk b o (Nat.ne_of_lt (Heap.lt_size e)) hb (Heap.get?_push_of_some _ e)) hS' hacc⟩
end
section
variable {X : Cx}
theorem pe_listRev {e : Expr} {te : TE} {p p2 pos pos2 : Pos} (hc : X.calm = true) (hg : Gl X "list") (hm : X.mg "list" = none) (hg2 : Gl X "reversed") (hm2 : X.mg "reversed" = none) (he : PE X e te)
    (hs : starEach [e] X.env = (false, eval e X.env) :: starEach [] X.env := by rfl)
    (hs2 : starEach [.Call (.Name "reversed" p2) [e] [] pos2] X.env = (false, eval (.Call (.Name "reversed" p2) [e] [] pos2) X.env) :: starEach [] X.env := by rfl) :
    PE X (.Call (.Name "list" p) [.Call (.Name "reversed" p2) [e] [] pos2] [] pos) (fun σ H Q => te σ H fun x H1 => ∃ a xs, x = .ref a ∧ SqL X.K H1 a xs ∧ ∀ q, H1 q = none → Q (.ref q) (upd H1 q (.lst xs.reverse))) := by
  refine ⟨fun pins s σ H Q I h => ?_⟩
  refine Call_ (ld_blt I hg hm boot_list (PyProof.Rows.callWith_type1 (args_cons (Call_ (ld_blt I hg2 hm2 PyProof.Rows.boot_reversed (PyProof.Rows.callWith_type1 (args_cons (thn (he.run pins s σ H _ I h) fun u s1 ⟨v, H1, I1, r1, a, xs, ev, hq, q⟩ => args_nil ?_) hs) hs rfl))) hs2) hs2 rfl))
  subst ev
  obtain rfl : u = Value.ref a := r1
  obtain ⟨its, rv, p', hz⟩ := I1.list hq
  have hl := p'.isList
  refine call_reversed_list hl (args_nil ?_)
  have I2 : Inv X pins σ H1 { s1 with heap := s1.heap.push (revObj a ((its.toArray.size : Int) - 1)) } := I1.kept (t' := s1.toks) fun b o e => Heap.get?_push_of_some _ e
  obtain ⟨f0, f1, f2, f3, f4, f5⟩ := I1.fpOk (H' := H1) (b := s1.heap.objs.size) (Nat.le_refl _) (I1.hok.fresh (Nat.le_refl _))
  obtain ⟨ol, hol, _⟩ := id hl
  have hne : a ≠ s1.heap.objs.size := Nat.ne_of_lt (Heap.lt_size hol)
  have hn : its.toArray.size ≤ sizeLine := by rw [List.size_toArray, ← rv.length]; exact hz
  refine call_list_rev (s := { s1 with heap := s1.heap.push (revObj a ((its.toArray.size : Int) - 1)) }) (I1.ok.hd hc) ⟨_, Heap.get?_push_size _ rfl, rfl, rfl⟩ (hl.push _) hne hn fun h' tk acc c' hk hS hi => ?_
  have kp : ∀ b o, s1.heap.get? b = some o → h'.get? b = some o := fun b o e => hk b o (Nat.ne_of_lt (Heap.lt_size e)) (Heap.get?_push_of_some _ e)
  have sz : s1.heap.objs.size ≤ (s1.heap.push (revObj a ((its.toArray.size : Int) - 1))).objs.size := by rw [Heap.size_push]; exact Nat.le_succ _
  refine ⟨.ref _, upd H1 (s1.heap.push (revObj a ((its.toArray.size : Int) - 1))).objs.size (.lst xs.reverse), I1.laid (t' := tk) kp sz (show ObjOk X.prog X.w _ _ _ (.lst xs.reverse) from ⟨by rw [List.length_reverse]; exact hz, acc.toList, c', RT.vals_rev rv hi, ?_⟩), rfl, q _ (I1.hok.fresh sz)⟩
  rw [Array.toArray_toList]
  exact hS
end
/-- the reversed list, of a list -/
def nRev (x : U) (h : List UO) : Rs (List U) := match lstU h x with | some xs => .ok xs.reverse h | none => .no
def eRevN (f : Ev) : EvL := fun us h => (f us h).bind nRev
theorem f_listrev {X : Cx} {G : Cfg} {W : WX} {e : Expr} {fe : Ev} {p p2 pos pos2 : Pos} (hK : X.K = G.K) (hc : X.calm = true) (hg : Gl X "list") (hm : X.mg "list" = none) (hg2 : Gl X "reversed") (hm2 : X.mg "reversed" = none) (he : PE X e (tE G fe W))
    (hs : starEach [e] X.env = (false, eval e X.env) :: starEach [] X.env := by rfl)
    (hs2 : starEach [.Call (.Name "reversed" p2) [e] [] pos2] X.env = (false, eval (.Call (.Name "reversed" p2) [e] [] pos2) X.env) :: starEach [] X.env := by rfl) :
    PE X (.Call (.Name "list" p) [.Call (.Name "reversed" p2) [e] [] pos2] [] pos) (tN G (eRevN fe) W) :=
  PE.imp (pe_listRev hc hg hm hg2 hm2 he hs hs2) fun σ _ Q ⟨us, w, e, m, sl, h⟩ => by
    subst e
    refine ⟨us, w, rfl, m, sl, (PtN.bind (Rel := R G) h).imp ?_⟩
    rintro x H1 ⟨w1, u, rfl, e1, m1, r1, h1⟩
    unfold nRev at h1
    split at h1
    · rename_i xs q
      obtain ⟨p, vs, rfl, hs, l⟩ := lstU_of m1 r1 q
      exact ⟨p, vs, rfl, hK ▸ hs, fun p hp => newL e1 m1 l.reverse rfl h1 hp⟩
    · exact h1.elim
def kRevL (x : U) (h : List UO) : Rs U := match lstU h x with | some xs => .ok (.tup xs.reverse) h | none => .no
theorem f_tuprev {X : Cx} {G : Cfg} {W : WX} {e : Expr} {fe : Ev} {p p2 pos pos2 : Pos} (hK : X.K = G.K) (hc : X.calm = true) (hg : Gl X "tuple") (hm : X.mg "tuple" = none) (hg2 : Gl X "reversed") (hm2 : X.mg "reversed" = none) (he : PE X e (tE G fe W))
    (hs : starEach [e] X.env = (false, eval e X.env) :: starEach [] X.env := by rfl)
    (hs2 : starEach [.Call (.Name "reversed" p2) [e] [] pos2] X.env = (false, eval (.Call (.Name "reversed" p2) [e] [] pos2) X.env) :: starEach [] X.env := by rfl) :
    PE X (.Call (.Name "tuple" p) [.Call (.Name "reversed" p2) [e] [] pos2] [] pos) (tE G (e1 kRevL fe) W) :=
  PE.imp (RT.pe_tupRev hc hg hm hg2 hm2 he hs hs2) fun σ _ Q ⟨us, w, e, m, sl, h⟩ => by
    subst e
    refine ⟨us, w, rfl, m, sl, (Pt.bind (Rel := R G) h).imp ?_⟩
    rintro x H1 ⟨w1, u, rfl, e1, m1, r1, h1⟩
    unfold kRevL at h1
    split at h1
    · rename_i xs q
      obtain ⟨p, vs, rfl, hs, l⟩ := lstU_of m1 r1 q
      exact ⟨p, vs, rfl, hK ▸ hs, fun p hp => h1.newT m1 l.reverse hp⟩
    · exact h1.elim
/-! ### sorted(t), a tuple of ints -/
section
variable {prog : Program} {w : World} {A : Around} {E : Value → Shared → Prop} {s : Shared}
theorem sorted_tupI {t : Addr} {vs : List Value} {ns : List Int} {Q : Value → Shared → Prop} (ht : IsTup s.heap t vs.toArray) (hI : IntsAre vs ns) (hL : vs.length ≤ sizeLine)
    (h : ∀ (S : Addr) (h' : Heap) (out : Array Value) (ns' : List Int) (e : Nat), s.heap.get? S = none → (∀ b o, s.heap.get? b = some o → h'.get? b = some o) → h'.get? S = some (seqObj "list" out e) → IntsAre out.toList ns' → ns'.Perm ns → ns'.Pairwise (· ≤ ·) → Q (.ref S) { s with heap := h' }) :
    wpAny (model prog w) A (call (.builtin "sorted") [.ref t]) Q E s := by
  obtain ⟨o, ho, hc, n, hd⟩ := ht
  refine Calls.call_function_entry kind_sorted plain_sorted entry_sorted (args_sorted1 _) ?_
  unfold Builtin.«sorted»
  refine wpAny_bind (m := checkCount "sorted" 1 1 _) (wpAny_pure (wpAny_bind (wpAny_collect_seq t (.inr rfl) ho hc hd ?_ (by rw [List.size_toArray]; exact hL))))
  intro h1 hk
  have ev : vs.toArray.toList = vs := by simp
  rw [ev]
  refine wpAny_bind (wpAny_newList ?_)
  have hoL : (h1.push (seqObj "list" vs.toArray 0)).get? h1.objs.size = some (seqObj "list" vs.toArray 0) := Heap.get?_push_size _ rfl
  show wpAny _ _ _ _ _ { s with heap := h1.push (seqObj "list" vs.toArray 0) }
  refine wpAny_bind (wpAny_holding (wpAny_call_entry PyProof.Rows.slot_list_sort ⟨_, hoL, rfl⟩ PyProof.Rows.entry_list_sort (list_sort_treeAny hoL hI hL fun out ns' a1 a2 a3 => ⟨_, rfl, ?_⟩) (PyProof.Rows.args_list_sort _)))
  obtain ⟨ep, he⟩ := PyProof.Rows.sortedHeap_at (vs := vs) (out := out) hoL
  refine wpAny_pure ⟨_, rfl, h h1.objs.size _ out ns' ep ?_ (fun b u hb => ?_) he a1 a2 a3⟩
  · cases q : s.heap.get? h1.objs.size with
    | none => rfl
    | some o' => exact absurd (Heap.lt_size (hk _ _ q)) (Nat.lt_irrefl _)
  · have hb1 := hk b u hb
    have hlt := Heap.lt_size hb1
    rw [PyProof.Rows.sortedHeap_old (Nat.ne_of_lt hlt) (by rw [Heap.size_push]; exact Nat.lt_succ_of_lt hlt)]
    exact Heap.get?_push_of_some _ hb1
end
section
variable {X : Cx}
def rSortedTup (K : PySem.W.Frag) : List V → Hp → VK → Prop := fun vs H Q => ∃ (a : Addr) (ns : List Int), vs = [V.ref a] ∧ SqT K H a (ns.map V.int) ∧ ∀ (ns' : List Int) (p : Addr), ns'.Perm ns → ns'.Pairwise (· ≤ ·) → H p = none → Q (.ref p) (upd H p (.lst (ns'.map V.int)))
theorem cr_sortedTup : CallR X (.builtin "sorted") (rSortedTup X.K) := by
  intro pins s σ H vs us Q I r h
  obtain ⟨a, ns, rfl, hs, q⟩ := h
  obtain ⟨its, rv, ht, hz⟩ := I.tuple hs
  rw [Vals.ref1 r]
  refine sorted_tupI ht rv.ints (by rw [← rv.length]; exact hz) fun S h' out ns' e hn hk he h1 h2 h3 => ?_
  have nS := I.hok.gone hn
  have hlen : (ns'.map V.int).length ≤ sizeLine := by
    rw [List.length_map] at hz ⊢
    rw [h2.length_eq]
    exact hz
  exact ⟨.ref S, upd H S (.lst (ns'.map V.int)), I.laidN (t' := s.toks) hk hn nS ⟨hlen, out.toList, e, vals_of_ints h1, by rw [Array.toArray_toList]; exact he⟩, rfl, q ns' S h2 h3 nS⟩
end
/-- sorted of a list or a tuple of ints -/
def kSortedS (xs : List U) (h : List UO) : Rs U := match xs with
  | [.tup xs] => (match toInts xs with | some ns => .ok (.fl ((sortI ns).map .int)) h | none => .no)
  | xs => kSorted xs h
theorem f_sortedS {X : Cx} {G : Cfg} {W : WX} {e : Expr} {fa : EvA} {p pos : Pos} (hK : X.K = G.K) (hg : Gl X "sorted") (hm : X.mg "sorted" = none) (ha : PA X [e] (tA G fa W)) (he : starEach [e] X.env = (false, eval e X.env) :: starEach [] X.env := by rfl) : PE X (.Call (.Name "sorted" p) [e] [] pos) (tE G (eCall kSortedS fa) W) :=
  f_callB (r := fun vs H Q => rSorted X.K vs H Q ∨ rSortedTup X.K vs H Q) (cr_sorted.or cr_sortedTup) (fun w σ W xs vs Q m l h => by
    unfold kSortedS at h
    split at h
    · rename_i ys
      split at h
      · rename_i ns q
        cases l with
        | cons r t =>
          cases t
          cases r with
          | tup hs l2 =>
            obtain ⟨rfl, _⟩ := toInts_of l2 q
            refine .inr ⟨_, ns, rfl, by rw [hK]; exact hs.1, fun ns' p hp ho hn => ?_⟩
            have e := sortI_one hp ho
            subst e
            exact h.newF m RL.ints hn
      · exact h.elim
    · exact .inl (hK ▸ ok_sorted w σ W _ vs Q m l h)) hg hm (by decide +kernel) ha (by decide) (by decide) he (by rfl)
end Fn
/-! tuples of ints of any lengths in order: sorted -/
namespace Fn
open PySem L2 PySem.Spec PyProof.Rows
/-- a tuple of ints -/
def IsTI (h : Heap) (v : Value) (ns : List Int) : Prop := ∃ a o xs n, v = .ref a ∧ h.get? a = some o ∧ o.cls = .type "tuple" ∧ o.data = .seq xs n ∧ IntsAre xs.toList ns
theorem IsTI.keeps {h h' : Heap} {v : Value} {ns : List Int} (x : IsTI h v ns) (k : ∀ b o, h.get? b = some o → o.cls = .type "tuple" → h'.get? b = some o) : IsTI h' v ns := by
  obtain ⟨a, o, xs, n, e, ho, hc, hd, hi⟩ := x
  exact ⟨a, o, xs, n, e, k a o ho hc, hc, hd, hi⟩
section
variable {prog : Program} {w : World} {A : Around} {s : Shared}
theorem lex_ints {b fin : Bool} {Q : Bool → Shared → Prop} : ∀ (xs ys : List Value) (ns ms : List Int) (i : Nat), IntsAre xs ns → IntsAre ys ms → fin = decide (xs.length < ys.length) → Q (HT.lexLt ns ms) s → PySem.W.KatLex prog w A b fin Q (xs.zip ys) i s
  | _, _, _, _, i, .nil, .nil, hf, hq => by
    subst hf
    exact PySem.W.kat_nil hq
  | _, _, _, _, i, .nil, .cons y u hy, hf, hq => by
    subst hf
    exact PySem.W.kat_nil (by simpa [HT.lexLt_nil_cons] using hq)
  | _, _, _, _, i, .cons x t hx, .nil, hf, hq => by
    subst hf
    exact PySem.W.kat_nil (by simpa [HT.lexLt_cons_nil] using hq)
  | _, _, _, _, i, @IntsAre.cons x t xs ns hx, @IntsAre.cons y u ys ms hy, hf, hq => by
    rw [List.zip_cons_cons]
    rw [HT.lexLt_cons] at hq
    refine PySem.W.kat_cons (SeqAt.EqAt.int_int x t y u prog w _ _ ?_)
    refine PySem.W.kat_go (fun e1 => ?_) (fun e1 => ?_)
    · have ex : x = y := by simpa using e1
      rw [if_pos ex] at hq
      exact PySem.W.kat_yes (lex_ints xs ys ns ms (i + 1) hx hy (by rw [hf]; simp) hq)
    · have ex : ¬ x = y := by simpa using e1
      rw [if_neg ex] at hq
      refine PySem.W.kat_no ?_
      cases hb : (b && i == 0) with
      | true => exact oneLt_int hq
      | false => exact PySem.W.kat_one _ _ (PyProof.Rows.lt_int hq)
theorem ti_cmp {vs : List Value} {k : Value → List Int} (hp : ∀ v ∈ vs, IsTI s.heap v (k v)) : SrtO.Cmp prog w A s (tuples' true) (fun p => p.1 ∈ vs) (SrtO.lt2 fun v u => HT.lexLt (k v) (k u)) := by
  intro p q hm hm'
  have h1 := hp _ hm
  have h2 := hp _ hm'
  show wpAny (model prog w) A (keyLt' (tuples' true) p.1 q.1) (fun r s' => s' = s ∧ r = HT.lexLt (k p.1) (k q.1)) (fun _ _ => False) s
  generalize k p.1 = x at h1 ⊢
  generalize k q.1 = x' at h2 ⊢
  obtain ⟨a, o, xs, n, e, ho, hc, hd, hi⟩ := h1
  obtain ⟨a', o', ys, n', e', ho', hc', hd', hi'⟩ := h2
  rw [e, e']
  refine PySem.W.kat_lt ho hd ho' hd' ?_
  exact lex_ints _ _ _ _ _ hi hi' (by rw [Array.length_toList, Array.length_toList]) ⟨rfl, rfl⟩
theorem ti_firsts {h : Heap} {k : Value → List Int} : ∀ vs : List Value, (∀ v ∈ vs, IsTI h v (k v)) → (∀ v ∈ vs, k v ≠ []) → ∃ fs, PySem.W.KatTups h vs fs ∧ fs.length = vs.length ∧ ∀ f ∈ fs, ∃ x t, f = Value.int x t
  | [], _, _ => ⟨[], PySem.W.KatTups.nil, rfl, fun _ h => nomatch h⟩
  | v :: r, hp, hn => by
    obtain ⟨fs, h1, h2, h3⟩ := ti_firsts r (fun v hv => hp v (List.mem_cons_of_mem _ hv)) (fun v hv => hn v (List.mem_cons_of_mem _ hv))
    obtain ⟨a, o, xs, n, e, ho, hc, hd, hi⟩ := hp v List.mem_cons_self
    have hne := hn v List.mem_cons_self
    generalize k v = ks at hi hne
    generalize hx : xs.toList = l at hi
    cases hi with
    | nil => exact absurd rfl hne
    | cons x t hr =>
      refine ⟨.int x t :: fs, ?_, by rw [List.length_cons, List.length_cons, h2], fun f hf => ?_⟩
      · rw [e]
        refine PySem.W.KatTups.cons ho hc hd ?_ h1
        rw [← Array.getElem?_toList, hx]
        rfl
      · rcases List.mem_cons.mp hf with z | z
        · exact ⟨x, t, z⟩
        · exact h3 f z
theorem ti_sortable {a : Addr} {vs : List Value} {k : Value → List Int} (h2 : 2 ≤ vs.length) (hp : ∀ v ∈ vs, IsTI s.heap v (k v)) (hne : ∀ v ∈ vs, k v ≠ []) (ha : ∀ o, s.heap.get? a = some o → o.cls ≠ .type "tuple") :
    SrtO.SortableO prog w A s a vs fun v u => HT.lexLt (k v) (k u) := by
  intro h' keep
  have hp' : ∀ v ∈ vs, IsTI h' v (k v) := fun v hm => (hp v hm).keeps fun b o e c => keep b o (fun z => by subst z; exact ha o e c) e
  obtain ⟨fs, h1, h3, h4⟩ := ti_firsts vs hp' hne
  refine ⟨tuples' true, fun Q E hq => ?_, ti_cmp hp'⟩
  refine PySem.W.kat_kind (T := .type "int") h1 (by omega) (fun f hm => ?_) (by rfl) ?_
  · obtain ⟨x, t, rfl⟩ := h4 f hm
    exact PySem.W.Looks.now
  · have e : (Value.type "int" != Value.type "tuple") = true := by first | decide +kernel | rfl | decide
    rw [e]
    exact hq
end
/-! ### sorted of what is walked like a dict -/
section
variable {prog : Program} {w : World} {A : Around} {E : Value → Shared → Prop} {s : Shared} {T : String} {r d : Addr} {n : Nat} {P : Nat → Value → Prop} {OK : Heap → Prop}
theorem collect_src {Q : List Value → Shared → Prop} (K : PySem.W.KdlSrc prog w T r d n P OK) (hh : A.handled = none) (hok : OK s.heap) (hn : n ≤ sizeLine)
    (h : ∀ h' tk acc, (∀ b o, s.heap.get? b = some o → h'.get? b = some o) → s.heap.objs.size < h'.objs.size → ItemsOf P acc n → Q acc.toList { s with heap := h', toks := tk }) : wpAny (model prog w) A (collect (.ref r)) Q E s := by
  obtain ⟨hr, hd⟩ := K.there _ hok
  unfold collect
  refine wpAny_bind (wpAny_runValue (codeAny_builtin PySem.F.entry_proto_collect ?_))
  rw [Around.under_plainId PySem.F.plain_proto_collect _]
  show wpAny _ A.in1 (newList [] >>= fun l => again (.builtin "list.__iadd__" ⟨[l, .ref r], []⟩)) _ _ s
  refine wpAny_bind (wpAny_newObj_type ?_)
  refine wpAny_pure ⟨plainId_quiet PySem.F.plain_list_iadd _, codeAny_builtin PySem.F.entry_list_iadd ?_⟩
  rw [Around.under_plainId PySem.F.plain_list_iadd _]
  have hS₁ : (s.heap.push { cls := .type "list", data := .seq ([] : List Value).toArray }).get? s.heap.objs.size = some { cls := .type "list", data := .seq #[] } := Heap.get?_push_size _ rfl
  show wpAny _ A.in1 (Builtin.List.listExtendWith (.ref s.heap.objs.size) (.ref r) (.ref s.heap.objs.size)) _ _ _
  have key := PySem.W.kdl_extend (prog := prog) (w := w) (A := A) (s := { s with heap := s.heap.push { cls := .type "list", data := .seq ([] : List Value).toArray } })
    (R := fun (q : Result) (s' : Shared) => ∃ (h' : Heap) (tk : Nat) (acc' : Array Value) (c' : Nat), q = .ok (.ret (.ref s.heap.objs.size)) ∧ s' = { s with heap := h', toks := tk } ∧
      (∀ b o, s.heap.get? b = some o → h'.get? b = some o) ∧ h'.get? s.heap.objs.size = some { cls := .type "list", dict := none, data := .seq acc' c', slots := #[] } ∧ ItemsOf P acc' n)
    K hh (K.keep _ _ hok fun b _ o e => Heap.get?_push_of_some _ e) s.heap.objs.size (Nat.ne_of_gt hr) (Nat.ne_of_gt hd) (.ref s.heap.objs.size) 0 hS₁
    (fun h' tk acc' c' hk hS' hacc => ⟨h', tk, acc', c', rfl, rfl, fun b o e => hk b o (Nat.ne_of_lt (Heap.lt_size e)) (Heap.get?_push_of_some _ e), hS', hacc⟩) hn
  refine wpAny_mono key (fun fin s' x => ?_) fun e s' x => ?_
  · cases fin with
    | done f =>
      obtain ⟨h', tk, acc', c', e, rfl, hk, hS', hacc⟩ := x
      cases e
      show wpAny _ A (load s.heap.objs.size >>= _) _ _ _
      refine wpAny_bind (wpAny_load hS' ?_)
      exact wpAny_pure (h h' tk acc' hk (Heap.lt_size hS') hacc)
    | again c₁ =>
      refine ⟨x.1, codeAny_mono x.2 fun q s₂ y => ?_⟩
      obtain ⟨h', tk, acc', c', rfl, rfl, hk, hS', hacc⟩ := y
      show wpAny _ A (load s.heap.objs.size >>= _) _ _ _
      refine wpAny_bind (wpAny_load hS' ?_)
      exact wpAny_pure (h h' tk acc' hk (Heap.lt_size hS') hacc)
  · obtain ⟨_, _, _, _, e', _⟩ := x
    cases e'
open SrtO SrtR in
/-- sorted(d, reverse=b) -/
theorem sorted_src {b : Bool} {Q : Value → Shared → Prop} (K : PySem.W.KdlSrc prog w T r d n P OK) (hh : A.handled = none) (hok : OK s.heap) (hn : n ≤ sizeLine) {kw : List (Str × Value)}
    (hk : ∀ a, Builtin.«list.sort» ⟨[.ref a], kw⟩ = Builtin.«list.sort» ⟨[.ref a], [(Str.ofString "reverse", .bool b)]⟩) (ha1 : argsOk "sorted" ⟨[.ref r], kw⟩) (ha2 : ∀ a, argsOk "list.sort" ⟨[a], kw⟩) {ltv : Value → Value → Bool} (O : Swo ltv)
    (hS : ∀ vs : List Value, ItemsOf P vs.toArray n → 2 ≤ vs.length → ∀ (s₁ : Shared) (a : Addr), s₁.heap.get? a = some (seqObj "list" vs.toArray 0) → (∀ b o, s.heap.get? b = some o → b ≠ a ∧ s₁.heap.get? b = some o) → SortableO prog w A.in1.in1 s₁ a vs ltv)
    (h : ∀ (vs out : List Value) (h' : Heap) (tk p c : Nat), ItemsOf P vs.toArray n → Srtd ltv out → Stb ltv out (if b = true then vs.reverse else vs) → (∀ b o, s.heap.get? b = some o → h'.get? b = some o) → s.heap.objs.size ≤ p →
      h'.get? p = some (seqObj "list" (if b = true then out.toArray.reverse else out.toArray) c) → Q (.ref p) { s with heap := h', toks := tk }) :
    wpAny (model prog w) A (call (.builtin "sorted") [.ref r] kw) Q E s := by
  refine call_function_entry_kw kind_sorted plain_sorted entry_sorted ha1 ?_
  unfold Builtin.«sorted»
  refine wpAny_bind (m := checkCount "sorted" 1 1 _) (wpAny_pure ?_)
  refine wpAny_bind (collect_src (A := A.in1) K hh hok hn fun h1 tk acc k1 z1 it => ?_)
  have hz : acc.toList.length ≤ sizeLine := by rw [Array.length_toList, it.1]; exact hn
  refine wpAny_bind (wpAny_newList ?_ hz)
  have hoL : (h1.push (seqObj "list" acc.toList.toArray 0)).get? h1.objs.size = some (seqObj "list" acc.toList.toArray 0) := Heap.get?_push_size _ rfl
  have it' : ItemsOf P acc.toList.toArray n := by rw [Array.toArray_toList]; exact it
  have keep : ∀ b o, s.heap.get? b = some o → b ≠ h1.objs.size ∧ (h1.push (seqObj "list" acc.toList.toArray 0)).get? b = some o := fun b o q =>
    ⟨Nat.ne_of_lt (Nat.lt_trans (Heap.lt_size q) z1), Heap.get?_push_of_some _ (k1 b o q)⟩
  refine wpAny_bind (wpAny_holding (wpAny_call_entry_kw slot_list_sort ⟨_, hoL, rfl⟩ entry_list_sort ?_ (ha2 _)))
  rw [hk]
  refine list_sort_ordR O hoL hz (fun h2 => hS _ it' h2 _ _ hoL keep) fun out hs hb => ⟨_, rfl, ?_⟩
  obtain ⟨c, hc⟩ := PyProof.Rows.sortedHeap_at (vs := acc.toList) (out := if b = true then out.toArray.reverse else out.toArray) hoL
  refine wpAny_pure ⟨_, rfl, h _ _ _ _ _ c it' hs hb (fun b o q => ?_) (Nat.le_of_lt z1) hc⟩
  rw [PyProof.Rows.sortedHeap_old (keep b o q).1 (by rw [Heap.size_push]; exact Nat.lt_succ_of_lt (Nat.lt_trans (Heap.lt_size q) z1))]
  exact (keep b o q).2
end
/-! ### sorted(d, reverse=b), the keys of d tuples of ints -/
def iVal : Value → Int | .int i _ => i | _ => 0
def intsAt (h : Heap) (v : Value) : List Int := match v with
  | .ref a => (match h.get? a with | some o => (match o.data with | .seq xs _ => xs.toList.map iVal | _ => []) | none => [])
  | _ => []
theorem iVal_ints : ∀ {vs : List Value} {ns : List Int}, IntsAre vs ns → vs.map iVal = ns
  | _, _, .nil => rfl
  | _, _, .cons n t r => by rw [List.map_cons, iVal_ints r]; rfl
theorem IsTI.ints {h : Heap} {v : Value} {ns : List Int} (x : IsTI h v ns) : intsAt h v = ns := by
  obtain ⟨a, o, xs, n, rfl, ho, hc, hd, hi⟩ := x
  unfold intsAt
  simp only [ho, hd]
  exact iVal_ints hi
def OrdL (b : Bool) (nss : List (List Int)) : Prop := nss.Pairwise fun x y => (if b = true then HT.lexLt x y else HT.lexLt y x) = false
theorem keysI {H : Hp} : ∀ {kvs : List (List Key × V)} {nss : List (List Int)} {bs : List Addr}, kvs.map (·.1) = nss.map (·.map Sum.inl) → Paired (fun p b => H b = some (.tup (p.1.map kV))) kvs bs → Paired (fun (ns : List Int) b => H b = some (.tup (ns.map V.int))) nss bs
  | _, [], _, e, h => by
    cases h with
    | nil => exact .nil
    | cons _ _ => cases e
  | _, ns :: nss, _, e, h => by
    cases h with
    | nil => cases e
    | cons h t =>
      rw [List.map_cons, List.map_cons] at e
      injection e with e1 e2
      refine .cons ?_ (keysI e2 t)
      rw [h, e1, List.map_map]
      rfl
theorem paired_each {α β : Type} {F : α → β → Prop} : ∀ {l : List α} {m : List β}, Paired F l m → ∀ y ∈ m, ∃ x ∈ l, F x y
  | _, _, .nil, _, h => nomatch h
  | _, _, .cons h t, y, hy => by
    rcases List.mem_cons.mp hy with e | e
    · exact ⟨_, List.mem_cons_self, e ▸ h⟩
    · obtain ⟨x, hx, q⟩ := paired_each t y e
      exact ⟨x, List.mem_cons_of_mem _ hx, q⟩
theorem paired_of {α β : Type} {F : α → β → Prop} {g : β → α} : ∀ {m : List β}, (∀ y ∈ m, F (g y) y) → Paired F (m.map g) m
  | [], _ => .nil
  | y :: m, h => .cons (h y List.mem_cons_self) (paired_of fun z hz => h z (List.mem_cons_of_mem _ hz))
theorem paired_map {α β : Type} {F : α → β → Prop} {g : β → α} (hg : ∀ x y, F x y → g y = x) : ∀ {l : List α} {m : List β}, Paired F l m → m.map g = l
  | _, _, .nil => rfl
  | _, _, .cons h t => by rw [List.map_cons, hg _ _ h, paired_map hg t]
def rSortedDT (b : Bool) : List V → List V → Hp → VK → Prop := fun vs zs H Q => ∃ (d : Addr) (kvs : List (List Key × V)) (nss : List (List Int)), vs = [V.ref d] ∧ zs = [V.bl b] ∧ H d = some (.dT kvs) ∧ kvs.map (·.1) = nss.map (·.map Sum.inl) ∧ (2 ≤ nss.length → ∀ ns ∈ nss, ns ≠ []) ∧
  ∀ (p : Addr) (bs : List Addr) (nss' : List (List Int)), H p = none → nss'.Perm nss → OrdL b nss' → Paired (fun (ns : List Int) c => H c = some (.tup (ns.map V.int))) nss' bs → Q (.ref p) (upd H p (.lst (bs.map V.ref)))
open SrtO in
theorem cr_sortedDT {X : Cx} {b : Bool} (hc : X.calm = true) : CallRK X (.builtin "sorted") [Str.ofString "reverse"] (rSortedDT b) := by
  intro pins s σ H vs zs us ws Q I r rz h
  obtain ⟨d, kvs, nss, rfl, rfl, hd, hkeys, hne, q⟩ := h
  obtain rfl := Vals.ref1 r
  obtain ⟨w1, rfl, e1⟩ := vals1 rz
  obtain rfl : w1 = Value.bool b := e1
  obtain ⟨z, hs, ks, pr, o, es, ep, ho, hx, hdt, he, hn⟩ := (show ObjOk X.prog X.w H s.heap d (.dT kvs) from I.hok d _ hd)
  have l1 : es.size = ks.length := size_of_entries he
  have l2 : kvs.length = ks.length := Paired.length pr
  have pk : Paired (fun (ns : List Int) c => H c = some (.tup (ns.map V.int))) nss (ks.map fun x => x.2.1) := keysI hkeys (isKeys_of pr)
  have ti : ∀ (ns : List Int) (c : Addr), H c = some (.tup (ns.map V.int)) → IsTI s.heap (.ref c) ns := fun ns c h => by
    obtain ⟨_, its, rv, o, ho, hc, n, hd⟩ := I.hok _ _ h
    exact ⟨c, o, its.toArray, n, rfl, ho, hc, hd, by simpa using rv.ints⟩
  have hnss : (ks.map fun x => x.2.1).map (fun c => intsAt s.heap (.ref c)) = nss := paired_map (fun ns c h => (ti ns c h).ints) pk
  have each : ∀ c ∈ ks.map (fun x => x.2.1), H c = some (.tup ((intsAt s.heap (.ref c)).map V.int)) ∧ intsAt s.heap (.ref c) ∈ nss := fun c hm => by
    obtain ⟨ns, hn, h⟩ := paired_each pk c hm
    rw [(ti ns c h).ints]
    exact ⟨h, hn⟩
  have eb : ∀ us : List Value, ItemsOf (fun i v => ∃ en : DictEntry, es[i]? = some en ∧ v = en.key) us.toArray es.size → us = (ks.map fun x => x.2.1).map Value.ref := fun us it => by
    have hl : us.length = ks.length := by have := it.1; rw [List.size_toArray] at this; omega
    rw [List.map_map]
    apply List.ext_getElem?
    intro j
    rw [List.getElem?_map]
    cases hj : us[j]? with
    | none =>
      have h1 := List.getElem?_eq_none_iff.mp hj
      rw [List.getElem?_eq_none (by omega)]
      rfl
    | some v =>
      obtain ⟨en, hen, hv⟩ := it.2 j v (by simpa using hj)
      have qe := entry_at he j
      rw [hen] at qe
      cases hb : ks[j]? with
      | none =>
        rw [hb] at qe
        exact nomatch (show some en = none from qe)
      | some b =>
        rw [hb] at qe
        have e2 : en = entryOfKey (tupleKind (mixKind X.prog X.w)) b := Option.some.inj qe
        rw [hv, e2]
        rfl
  refine sorted_src (kdl_raw hs hx hdt) (I.ok.hd hc) ho (by omega) (fun _ => rfl) (PyProof.Rows.args_sorted_rev _ _) (fun _ => PyProof.Rows.args_list_sort_rev _ _) (NtL.swo_lexL (intsAt s.heap)) (fun us it h2 s₁ a ha kk => ?_) fun us out h' tk p c it hs hb kk hp hob => ?_
  · have e := eb us it
    have hv : ∀ v ∈ us, IsTI s₁.heap v (intsAt s.heap v) := fun v hm => by
      rw [e] at hm
      obtain ⟨c, hc, rfl⟩ := List.mem_map.mp hm
      exact (ti _ c (each c hc).1).keeps fun b o q _ => (kk b o q).2
    refine ti_sortable h2 hv (fun v hm => ?_) fun o e => ?_
    · rw [e] at hm
      obtain ⟨c, hc, rfl⟩ := List.mem_map.mp hm
      refine hne ?_ _ (each c hc).2
      rw [← hnss, List.length_map, ← List.length_map (f := Value.ref), ← e]
      exact h2
    · rw [ha] at e
      cases e
      exact fun z => absurd (Value.type.inj z) (by decide)
  · have e := eb us it
    have hperm : (if b = true then out.reverse else out).Perm us := by
      cases b with
      | true => exact (List.reverse_perm _).trans (hb.perm.trans (List.reverse_perm _))
      | false => exact hb.perm
    have eo : (if b = true then out.toArray.reverse else out.toArray).toList = (if b = true then out.reverse else out) := by
      cases b with
      | true => exact Array.toList_reverse
      | false => rfl
    have hall : ∀ v ∈ (if b = true then out.reverse else out), ∃ t, v = Value.ref t := fun v hm => by
      have := hperm.mem_iff.mp hm
      rw [e] at this
      obtain ⟨c, _, rfl⟩ := List.mem_map.mp this
      exact ⟨c, rfl⟩
    generalize hbs : (if b = true then out.reverse else out).map adO = bs
    have er : (if b = true then out.reverse else out) = bs.map Value.ref := by rw [← hbs]; exact ref_map hall
    have pb : bs.Perm (ks.map fun x => x.2.1) := by
      rw [← hbs]
      have := hperm.map adO
      rw [e, ad_map] at this
      exact this
    have hord : OrdL b (bs.map fun c => intsAt s.heap (.ref c)) := by
      have h1 : (bs.map fun c => intsAt s.heap (.ref c)) = (if b = true then out.reverse else out).map (intsAt s.heap) := by rw [er, List.map_map]; rfl
      rw [h1]
      unfold OrdL
      rw [List.pairwise_map]
      cases b with
      | true =>
        show (out.reverse).Pairwise _
        rw [List.pairwise_reverse]
        exact hs
      | false => exact hs
    have hz : (bs.map V.ref).length ≤ sizeLine := by
      rw [List.length_map, pb.length_eq, List.length_map]
      omega
    refine ⟨.ref p, _, I.laid (t' := tk) (o := .lst (bs.map V.ref)) kk hp ?_, rfl, q p bs _ (I.hok.fresh hp) ?_ hord (paired_of fun c hc => (each c (pb.mem_iff.mp hc)).1)⟩
    · exact ⟨hz, bs.map Value.ref, c, vals_refs _, by rw [← er, ← eo, Array.toArray_toList]; exact hob⟩
    · rw [← hnss]
      exact pb.map _
/-! ### the evaluator -/
theorem perm_uniq {α : Type} [DecidableEq α] {R : α → α → Prop} (anti : ∀ x y, R x y → R y x → x = y) : ∀ {l m : List α}, l.Perm m → l.Pairwise R → m.Pairwise R → l = m
  | [], m, p, _, _ => (List.nil_perm.mp p).symm
  | x :: l, [], p, _, _ => by have := p.length_eq; simp at this
  | x :: l, y :: m, p, hl, hm => by
    obtain ⟨h1, h2⟩ := List.pairwise_cons.mp hl
    obtain ⟨h3, h4⟩ := List.pairwise_cons.mp hm
    have e : x = y := by
      by_cases z : x = y
      · exact z
      have a : y ∈ l := by
        rcases List.mem_cons.mp (p.mem_iff.mpr List.mem_cons_self) with q | q
        · exact absurd q.symm z
        · exact q
      have b : x ∈ m := by
        rcases List.mem_cons.mp (p.mem_iff.mp List.mem_cons_self) with q | q
        · exact absurd q z
        · exact q
      exact anti x y (h1 y a) (h3 x b)
    subst e
    rw [perm_uniq anti (List.perm_cons x |>.mp p) h2 h4]
theorem lex_anti : ∀ x y : List Int, HT.lexLt x y = false → HT.lexLt y x = false → x = y
  | [], [], _, _ => rfl
  | [], _ :: _, h, _ => by cases h
  | _ :: _, [], _, h => by cases h
  | a :: x, b :: y, h1, h2 => by
    rw [HT.lexLt_cons] at h1 h2
    by_cases e : a = b
    · subst e
      rw [if_pos rfl] at h1 h2
      rw [lex_anti x y h1 h2]
    · rw [if_neg e, decide_eq_false_iff_not] at h1
      rw [if_neg fun z => e z.symm, decide_eq_false_iff_not] at h2
      omega
/-- into its place, the greatest ahead -/
def insD (x : List Int) : List (List Int) → List (List Int)
  | [] => [x]
  | y :: r => match HT.lexLt x y with | true => y :: insD x r | false => x :: y :: r
def sortD : List (List Int) → List (List Int)
  | [] => []
  | x :: r => insD x (sortD r)
theorem insD_perm (x : List Int) : ∀ l, (insD x l).Perm (x :: l)
  | [] => .refl _
  | y :: r => by
    unfold insD
    cases HT.lexLt x y with
    | true => exact ((insD_perm x r).cons y).trans (.swap x y r)
    | false => exact .refl _
theorem sortD_perm : ∀ l, (sortD l).Perm l
  | [] => .refl _
  | x :: r => (insD_perm x (sortD r)).trans ((sortD_perm r).cons x)
theorem insD_ord (x : List Int) : ∀ l : List (List Int), OrdL true l → OrdL true (insD x l)
  | [], _ => List.pairwise_singleton _ _
  | y :: r, h => by
    obtain ⟨h1, h2⟩ := List.pairwise_cons.mp h
    unfold insD
    cases q : HT.lexLt x y with
    | true =>
      refine List.pairwise_cons.mpr ⟨fun z hz => ?_, insD_ord x r h2⟩
      rcases List.mem_cons.mp ((insD_perm x r).mem_iff.mp hz) with e | e
      · subst e
        exact NtL.lex_asym _ _ q
      · exact h1 z e
    | false =>
      refine List.pairwise_cons.mpr ⟨fun z hz => ?_, h⟩
      rcases List.mem_cons.mp hz with e | e
      · subst e
        exact q
      · have a : HT.lexLt y z = false := h1 z e
        exact NtL.lex_tr z y x a q
theorem sortD_ord : ∀ l, OrdL true (sortD l)
  | [] => List.Pairwise.nil
  | x :: r => insD_ord x _ (sortD_ord r)
theorem sortD_one {l m : List (List Int)} (p : m.Perm l) (h : OrdL true m) : m = sortD l :=
  perm_uniq (fun x y a b => lex_anti x y a b) (p.trans (sortD_perm l).symm) h (sortD_ord l)
def keyInts : List Key → Option (List Int)
  | [] => some []
  | .inl i :: r => (match keyInts r with | some l => some (i :: l) | none => none)
  | .inr _ :: _ => none
theorem keyInts_of : ∀ {k : List Key} {ns : List Int}, keyInts k = some ns → k = ns.map Sum.inl
  | [], _, h => by cases h; rfl
  | .inl i :: r, ns, h => by
    unfold keyInts at h
    split at h
    · rename_i l q
      cases h
      rw [keyInts_of q]
      rfl
    · cases h
  | .inr _ :: _, _, h => by cases h
theorem keysInts_of : ∀ {ks : List (List Key)} {nss : List (List Int)}, mapO keyInts ks = some nss → ks = nss.map (·.map Sum.inl)
  | [], _, h => by cases h; rfl
  | k :: r, nss, h => by
    unfold mapO at h
    split at h
    · rename_i y q
      split at h
      · rename_i ys q2
        cases h
        rw [List.map_cons, ← keyInts_of q, ← keysInts_of q2]
      · cases h
    · cases h
def tupI (ns : List Int) : U := .tup (ns.map .int)
/-- sorted(x, reverse=d), x a dict whose keys are tuples of ints -/
def kSortedDT (x d : U) (h : List UO) : Rs U := match d with
  | .bl true => (match x with
    | .ref i => (match h[i]? with
      | some (.dt acc) => (match mapO keyInts (acc.map (·.1)) with
        | some nss => (match Nat.blt nss.length 2 || nss.all (fun ns => !ns.isEmpty) with | true => .ok (.fl ((sortD nss).map tupI)) h | false => .no)
        | none => .no)
      | _ => .no)
    | _ => .no)
  | _ => .no
theorem rl_tups {G : Cfg} {w : Wd} : ∀ {nss : List (List Int)} {bs : List Addr}, Paired (fun (ns : List Int) c => w.H c = some (.tup (ns.map V.int))) nss bs → RL G w (nss.map tupI) (bs.map V.ref)
  | _, _, .nil => .nil
  | _, _, .cons h t => .cons (.tup (.new h) RL.ints) (rl_tups t)
theorem f_sortedDT {X : Cx} {G : Cfg} {W : WX} {a b : Expr} {fa fb : Ev} {pos p kp : Pos} (hc : X.calm = true) (hg : Gl X "sorted") (hm : X.mg "sorted" = none) (ha : PE X a (tE G fa W)) (hb : PE X b (tE G fb W))
    (na : starEach [a] X.env = (false, eval a X.env) :: starEach [] X.env := by rfl) (he : backTo pos (starEach [a] X.env) = (false, eval a X.env) :: backTo pos (starEach [] X.env) := by rfl) (hpl : (backTo pos (starEach [a] X.env)).any (·.1) = false := by rfl)
    (hall : (backToKw pos (keywordEach [⟨some "reverse", b, kp⟩] X.env)).all (·.1.isSome) = true := by rfl) (hnone : (backToKw pos (keywordEach [⟨some "reverse", b, kp⟩] X.env)).any (·.1.isNone) = false := by rfl) (hks : (backToKw pos (keywordEach [⟨some "reverse", b, kp⟩] X.env)).filterMap (·.1) = [Str.ofString "reverse"] := by rfl) :
    PE X (.Call (.Name "sorted" p) [a] [⟨some "reverse", b, kp⟩] pos) (tE G (e2 kSortedDT fa fb) W) :=
  PE.imp (pe_callBK (r := rSortedDT true) (cr_sortedDT hc) hg hm (by decide +kernel) (pa_cons ha pa_nil na) (pk_cons hb pk_nil) (he := he) (hpl := hpl) (hall := hall) (hnone := hnone) (hks := hks)) fun σ H Q h => by
    refine two_of (r := fun x y H Q => rSortedDT true [x] [y] H Q) ?_ h
    intro w σ W x y va vb Q m rx ry h
    unfold kSortedDT at h
    split at h
    · cases ry
      split at h
      · rename_i i
        split at h
        · rename_i acc hacc
          split at h
          · rename_i nss qn
            split at h
            · rename_i hne
              cases rx with
              | ref hr =>
                cases m.obj i _ _ hr hacc with
                | dt hH l =>
                  rename_i vs
                  have hlen : (acc.map (·.1)).length = vs.length := by
                    have := l.length
                    rw [List.length_map] at this ⊢
                    exact this
                  refine ⟨_, _, nss, rfl, rfl, hH, ?_, fun h2 ns hn => ?_, fun p bs nss' hp pm ho pk => ?_⟩
                  · rw [List.map_fst_zip (by omega)]
                    exact keysInts_of qn
                  · rw [Bool.or_eq_true] at hne
                    rcases hne with z | z
                    · exact absurd (Nat.le_of_ble_eq_true z) (by omega)
                    · intro e
                      have := List.all_eq_true.mp z ns hn
                      rw [e] at this
                      cases this
                  · have e := sortD_one pm ho
                    subst e
                    exact h.newF m (rl_tups pk) hp
            · exact h.elim
          · exact h.elim
        · exact h.elim
      · exact h.elim
    · exact h.elim
end Fn
/-! dicts whose keys are tuples: {}, {k: v}, d[k], d.get(k, x), d[k] = v, list(d) -/
namespace L2
open PySem PySem.Spec PyProof.Rows
def tDisp1T (tk tv : TE) : TE := fun σ H Q => ∀ p, H p = none → tPairs [(tk, tv)] σ (upd H p (.dT [])) fun ps H2 => H2 p = some (.dT []) ∧ ∃ (b : Addr) (k : List Key) (y : V), ps = [(.ref b, y)] ∧ H2 b = some (.tup (k.map kV)) ∧ Q (.ref p) (upd H2 p (.dT [(k, y)]))
theorem pe_disp1T {X : Cx} {pos : Pos} {k v : Expr} {tk tv : TE} (hu : X.A.units + 1 < cLine) (hk : PE X k tk) (hv : PE X v tv) : PE X (.Dict [some k] [v] pos) (tDisp1T tk tv) := by
  refine ⟨fun pins s σ H Q I q => ?_⟩
  have hn := I.hok.fresh (Nat.le_refl s.heap.objs.size)
  have I1 := I.laid (a := s.heap.objs.size) (o := .dT []) (h' := s.heap.push { cls := .type "dict", data := .dict #[] }) (t' := s.toks) (fun _ _ q => Heap.get?_push_of_some _ q) (Nat.le_refl _) (dt_empty s.heap I.big)
  have hl := pairTrees_length [some k] [v] X.env pos rfl rfl
  have hl1 : (pairTrees [some k] [v] X.env pos).length = 1 := hl
  rw [arm_eval_Dict, zip_pairTrees [some k] [v] X.env pos rfl rfl, dictDisplay_pairs _ (fun e => by rw [e] at hl1; cases hl1) (by omega)]
  refine wpAny_bind (wpAny_standAt (wpAny_bind (wpAny_subDictH (knd := tupleKind (mixKind X.prog X.w)) (Q := fun d s' => wpAny (model X.prog X.w) X.A (pure (Value.ref d)) (EP X pins σ Q) X.xe s') (show _ from Nat.lt_of_succ_lt hu) (by omega)
    (thn ((pps_cons hk hv pps_nil).run pins _ σ _ _ I1 (q _ hn)) fun ws s2 ⟨ps, H2, I2, rel, e, b, ky, y, ep, hb, q2⟩ => ?_))))
  subst ep
  cases rel with
  | @cons _ wv _ _ h t =>
    cases t
    obtain ⟨wk, wy⟩ := wv
    obtain ⟨h1, h2⟩ := h
    cases (show wk = Value.ref b from h1)
    obtain ⟨z, hd, xs, r0, dd⟩ := dt_of I2.hok e
    cases r0
    refine ⟨[(ky, b, wy)], ⟨rfl, rfl, key_of I2.hok hb, trivial⟩, dd, fun h' tk dd' hs => wpAny_pure ⟨.ref s.heap.objs.size, _, ?_, rfl, q2⟩⟩
    obtain ⟨o, es, epo, hq, x2, x3, x4, _, x5⟩ := dd'
    refine (d_write I2 (by rw [e]; exact True.intro) hs ⟨o, hq⟩ ⟨by show 1 ≤ sizeLine; decide, hd, _, ?_, o, es, epo, hq, x2, x3, x4, x5⟩)
    refine Paired.cons ⟨rfl, ?_, h2⟩ Paired.nil
    rw [upd_ne (ne_of hb e (fun z => nomatch z))]
    exact hb
end L2
/-! dicts whose keys are tuples, by own evaluators -/
namespace Fn
open PySem L2 PySem.Spec PyProof.Rows
theorem kV_inj : ∀ {a b : Key}, kV a = kV b → a = b
  | .inl _, .inl _, h => by cases h; rfl
  | .inr _, .inr _, h => by cases h; rfl
  | .inl _, .inr _, h => by cases h
  | .inr _, .inl _, h => by cases h
theorem kVs_inj : ∀ {a b : List Key}, a.map kV = b.map kV → a = b
  | [], [], _ => rfl
  | [], _ :: _, h => by cases h
  | _ :: _, [], h => by cases h
  | x :: r, y :: s, h => by
    rw [List.map_cons, List.map_cons] at h
    injection h with h1 h2
    rw [kV_inj h1, kVs_inj h2]
/-- a tuple as a key; those of bad are refused -/
def keyT (bad : List (List Key)) : U → Option (List Key)
  | .tup us => (match mapO keyU us with
    | some k => (match bad.any (fun b => decide (b = k)) with | true => none | false => some k)
    | none => none)
  | _ => none
def Kts (G : Cfg) (bad : List (List Key)) : Prop := ∀ vs, G.kt vs → ∃ k ∈ bad, vs = k.map kV
section
variable {G : Cfg} {w : Wd}
theorem keys_of : ∀ {us : List U} {vs : List V} {k : List Key}, RL G w us vs → mapO keyU us = some k → vs = k.map kV
  | _, _, _, .nil, h => by cases h; rfl
  | _, _, _, .cons r t, h => by
    unfold mapO at h
    split at h
    · rename_i y q
      split at h
      · rename_i ys q2
        cases h
        rw [List.map_cons, ← keyU_of r q, ← keys_of t q2]
      · cases h
    · cases h
theorem keyT_of {bad : List (List Key)} (hb : Kts G bad) {u : U} {v : V} {k : List Key} (r : R G w u v) (h : keyT bad u = some k) : ∃ b, v = .ref b ∧ w.H b = some (.tup (k.map kV)) := by
  cases r with
  | tup h1 l =>
    unfold keyT at h
    dsimp only at h
    split at h
    · rename_i k1 q
      split at h
      · cases h
      · rename_i q2
        cases h
        have e := keys_of l q
        subst e
        refine ⟨_, rfl, h1.2.resolve_left fun z => ?_⟩
        obtain ⟨k', m1, m2⟩ := hb _ z
        have := kVs_inj m2
        subst this
        have := List.any_eq_false.mp q2 k m1
        simp at this
    · cases h
  | _ => cases h
theorem RK.val_none {κ : Type} [DecidableEq κ] {k : κ} : ∀ {us : List (κ × U)} {vs : List (κ × V)}, RK G w us vs → valU us k = none → valV vs k = none
  | _, _, .nil, _ => rfl
  | _, _, @RK.cons _ _ _ k' u' v' _ _ r t, e => by
    unfold valU at e
    split at e
    · cases e
    · rename_i q
      have q : ¬ k' = k := of_decide_eq_false q
      rw [valV_neg (p := (k', v')) q]
      exact RK.val_none t e
/-- d[k] = v of the p-th own object -/
def putT (bad : List (List Key)) (o ku vu : U) (h : List UO) : Rs Unit := match o, keyT bad ku with
  | .ref p, some k => (match h[p]? with
    | some (.dt acc) => (match Nat.blt acc.length 16777216 with | true => .ok () (h.set p (.dt (putU acc k vu))) | false => .no)
    | _ => .no)
  | _, _ => .no
theorem putT_of {bad : List (List Key)} {o ku vu : U} {vo vk vv : V} {h' : List UO} (hb : Kts G bad) (m : Sm G w) (ro : R G w o vo) (rk : R G w ku vk) (rv : R G w vu vv) (h : putT bad o ku vu w.h = .ok () h') :
    ∃ D H', vo = .ref D ∧ DPut w.H D vk vv H' ∧ ∃ w' : Wd, w'.H = H' ∧ w'.h = h' ∧ Ext w w' ∧ Sm G w' := by
  unfold putT at h
  split at h
  · rename_i p k hk
    split at h
    · rename_i acc hp
      split at h
      · rename_i hz
        cases h
        cases ro with
        | @ref _ D hr =>
          cases m.obj _ _ _ hr hp with
          | @dt _ ws hv l =>
            obtain ⟨b, rfl, hbb⟩ := keyT_of hb rk hk
            have l2 := RK.of l
            have e : Ext w (w.put p D (.dt (putU acc k vu)) (.dT (putK ((acc.map (·.1)).zip ws) k vv))) := Ext.put m hr hp
            refine ⟨D, _, rfl, .t hv hbb ?_, _, rfl, rfl, e, m.put hr hp ?_⟩
            · rw [← l2.length, sizeLine_eq]
              exact Nat.le_of_ble_eq_true hz
            · obtain ⟨q1, q2⟩ := ((l2.put k rv).up m e).zip
              exact .dt (by rw [← q1]; exact upd_same) q2
      · cases h
    · cases h
  · cases h
end
section
variable {X : Cx} {G : Cfg} {W : WX} {bad : List (List Key)} {a b c e : Expr} {fa fb fc fe : Ev} {pos tpos : Pos} {kk : Nat}
/-- {}, to be a dict with tuples as keys -/
def eDnewT : Ev := fun _ h => .ok (.ref h.length) (h ++ [.dt []])
theorem newDT {w : Wd} {p : Addr} (m : Sm G w) (hp : w.H p = none) : ∃ w' : Wd, w'.h = w.h ++ [.dt []] ∧ w'.H = upd w.H p (.dT []) ∧ Ext w w' ∧ Sm G w' ∧ R G w' (.ref w.h.length) (.ref p) :=
  toTrackedO (o := .dt []) (Ext.newZ (o := .dT []) hp) (m.newZ hp) (fun w'' le => .dt (vs := []) (by rw [le.H]; exact upd_same) .nil) hp (.inr rfl) (m.free_r hp)
theorem f_dnewT : PE X (.Dict [] [] pos) (tE G eDnewT W) := PE.imp pe_dnewT fun σ _ Q ⟨us, w, e, m, sl, h⟩ => by
  subst e
  intro p hp
  obtain ⟨w', h1, h2, e1, m1, r⟩ := newDT m hp
  rw [← h2]
  exact h w' _ h1 e1 m1 r
/-- {k: v} -/
def eDisp1T (bad : List (List Key)) (fk fv : Ev) : Ev := fun us h => (fk us (h ++ [.dt []])).bind fun k h1 => (fv us h1).bind fun v h2 => match keyT bad k, h2[h.length]? with
  | some ky, some (.dt []) => .ok (.ref h.length) (h2.set h.length (.dt [(ky, v)]))
  | _, _ => .no
theorem f_disp1T (hb : Kts G bad) (hr : Room kk X.A) (ha : PE X a (tE G fa W)) (hc : PE X c (tE G fc W)) : PE X (.Dict [some a] [c] pos) (tE G (eDisp1T bad fa fc) W) :=
  PE.imp (pe_disp1T (hu_of hr) ha hc) fun σ _ Q ⟨us, w, e, m, sl, h⟩ => by
    subst e
    intro p hp
    obtain ⟨w', h1, h2, e1, m1, r⟩ := newDT m hp
    unfold eDisp1T at h
    rw [← h1] at h
    rw [← h2]
    refine ⟨us, w', rfl, m1, sl.up m e1, (Pt.bind (Rel := R G) (Pt.weak e1 h)).imp ?_⟩
    rintro x H1 ⟨w1, u, rfl, e2, m2, r2, h3⟩
    refine ⟨us, w1, rfl, m2, sl.up m (e1.trans e2), (Pt.bind (Rel := R G) h3).imp ?_⟩
    rintro y H2 ⟨w2, v, rfl, e3, m3, r3, h4⟩
    have r := (r.up m1 e2).up m2 e3
    have r2 := r2.up m2 e3
    split at h4
    · rename_i ky hk hq
      cases r with
      | ref hr =>
        cases m3.obj _ _ _ hr hq with
        | @dt _ ws hv l =>
          cases l
          obtain ⟨b, rfl, hbb⟩ := keyT_of hb r2 hk
          refine ⟨hv, b, ky, _, rfl, hbb, ?_⟩
          have e : Ext w2 (w2.put w.h.length p (.dt [(ky, v)]) (.dT [(ky, y)])) := Ext.put m3 hr hq
          refine h4 _ _ rfl e (m3.put hr hq (.dt (vs := [y]) upd_same ((RL.cons r3 .nil).up m3 e))) (.ref (e.get hr))
    · exact h4.elim
/-- d[k] -/
def kDgetT (bad : List (List Key)) (x y : U) (h : List UO) : Rs U := match x, keyT bad y with
  | .ref p, some k => (match h[p]? with | some (.dt kvs) => (match valU kvs k with | some u => .ok u h | none => .no) | _ => .no)
  | _, _ => .no
theorem f_dgetT (hbd : Kts G bad) (hr : Room kk X.A) (ha : PE X a (tE G fa W)) (hb : PE X b (tE G fb W)) (hs : NoSl b := by exact fun _ _ => rfl) : PE X (.Subscript a b pos) (tE G (e2 (kDgetT bad) fa fb) W) :=
  PE.imp (pe_dget (hu_of hr) ha hb hs) fun σ _ Q ⟨us, w, e, m, sl, h⟩ => by
    subst e
    refine ⟨us, w, rfl, m, sl, (Pt.bind (Rel := R G) h).imp ?_⟩
    rintro x H1 ⟨w1, u, rfl, e1, m1, r1, h1⟩
    refine ⟨us, w1, rfl, m1, sl.up m e1, (Pt.bind (Rel := R G) h1).imp ?_⟩
    rintro y H2 ⟨w2, v, rfl, e2, m2, r2, h2⟩
    have r1 := r1.up m1 e2
    unfold kDgetT at h2
    split at h2
    · rename_i k hk _
      cases r1 with
      | @ref _ d hr =>
        split at h2
        · rename_i kvs q
          split at h2
          · rename_i u q2
            cases m2.obj _ _ _ hr q with
            | @dt _ ws hv l =>
              obtain ⟨vv, q3, rv⟩ := (RK.of l).val q2
              obtain ⟨b, rfl, hbb⟩ := keyT_of hbd r2 hk
              exact ⟨d, vv, rfl, q3 ▸ .t hv hbb, h2.val m2 rv⟩
          · exact h2.elim
        · exact h2.elim
    · exact h2.elim
/-- d.get(k, x) -/
def eDget2T (bad : List (List Key)) (fa fb fc : Ev) : Ev := fun us h => (fa us h).bind fun x h1 => match x with
  | .ref p => (match h1[p]? with
    | some (.dt _) => (fb us h1).bind fun y h2 => (fc us h2).bind fun z h3 => (match keyT bad y, h3[p]? with
      | some k, some (.dt kvs) => .ok ((valU kvs k).getD z) h3
      | _, _ => .no)
    | _ => .no)
  | _ => .no
theorem f_dget2T {apos cpos : Pos} (hbd : Kts G bad) (hr : Room kk X.A) (ha : PE X a (tE G fa W)) (hb : PE X b (tE G fb W)) (hc : PE X c (tE G fc W)) (m2 : M2 X a "get" apos b c cpos) : PE X (.Call (.Attribute a "get" apos) [b, c] [] cpos) (tE G (eDget2T bad fa fb fc) W) :=
  PE.imp (pe_dget2 (hu_of hr) ha hb hc m2) fun σ _ Q ⟨us, w, e, m, sl, h⟩ => by
    subst e
    refine ⟨us, w, rfl, m, sl, (Pt.bind (Rel := R G) h).imp ?_⟩
    rintro x H1 ⟨w1, u, rfl, e1, m1, r1, h1⟩
    split at h1
    · rename_i p
      split at h1
      · rename_i acc q
        cases r1 with
        | @ref _ d hr =>
          refine ⟨d, rfl, ?_, us, w1, rfl, m1, sl.up m e1, (Pt.bind (Rel := R G) h1).imp ?_⟩
          · cases m1.obj _ _ _ hr q with
            | dt hv l => exact .inr ⟨_, .inl hv⟩
          rintro y H2 ⟨w2, v, rfl, e2, m2, r2, h2⟩
          refine ⟨us, w2, rfl, m2, (sl.up m e1).up m1 e2, (Pt.bind (Rel := R G) h2).imp ?_⟩
          rintro z H3 ⟨w3, z', rfl, e3, m3, r3, h3⟩
          have r2 := r2.up m2 e3
          have hr := e3.get (e2.get hr)
          split at h3
          · rename_i k kvs hk q3
            cases m3.obj _ _ _ hr q3 with
            | @dt _ ws hv l =>
              obtain ⟨b, rfl, hbb⟩ := keyT_of hbd r2 hk
              refine ⟨_, .t hv hbb, ?_⟩
              cases qv : valU kvs k with
              | none =>
                rw [(RK.of l).val_none qv]
                rw [qv] at h3
                exact h3.val m3 r3
              | some u =>
                obtain ⟨vv, q4, rv⟩ := (RK.of l).val qv
                rw [q4]
                rw [qv] at h3
                exact h3.val m3 rv
          · exact h3.elim
      · exact h1.elim
    · exact h1.elim
/-- d[k] = v -/
def gPutT (bad : List (List Key)) (fo fi fv : Ev) : Sv := fun us h => (fv us h).then us fun v h1 => (fo us h1).then us fun o h2 => (fi us h2).then us fun i h3 => (putT bad o i v h3).then us fun _ h4 => .nx us h4
theorem s_dputT {o i : Expr} {fo fi : Ev} (hbd : Kts G bad) (hr : Room kk X.A) (he : PE X e (tE G fe W)) (ho : PE X o (tE G fo W)) (hi : PE X i (tE G fi W))
    (hs : swapsWith e (some (.Subscript o i tpos)) pos.line X.env = pure false := by rfl) : PS X (.Assign [.Subscript o i tpos] e pos) (tS G (gPutT bad fo fi fe) W) :=
  PS.imp (ps_dput (hu_of hr) ho hi he hs) fun D σ _ ⟨us, w, e, m, sl, h⟩ => by
    subst e
    refine ⟨us, w, rfl, m, sl, (PtS.then m sl h).imp ?_⟩
    rintro v H1 ⟨w1, uv, rfl, e1, m1, r1, sl1, h1⟩
    refine ⟨us, w1, rfl, m1, sl1, (PtS.then (Rel := R G) m1 sl1 h1).imp ?_⟩
    rintro ov H2 ⟨w2, uo, rfl, e2, m2, r2, sl2, h2⟩
    refine ⟨us, w2, rfl, m2, sl2, (PtS.then (Rel := R G) m2 sl2 h2).imp ?_⟩
    rintro iv H3 ⟨w3, ui, rfl, e3, m3, r3, sl3, h3⟩
    have r2 := r2.up m2 e3
    have r1 := r1.up m1 (e2.trans e3)
    cases q : putT bad uo ui uv w3.h with
    | ok a h' =>
      rw [q] at h3
      obtain ⟨D1, H', rfl, dp, w4, rfl, x2, x3, x4⟩ := putT_of hbd m3 r2 r3 r1 q
      exact ⟨D1, _, rfl, dp, h3 w4 σ x2 x3 x4 (sl3.up m3 x3)⟩
    | ex x h' =>
      unfold putT at q
      split at q
      · split at q
        · split at q <;> cases q
        · cases q
      · cases q
    | no => rw [q] at h3; exact h3.elim
/-- list(d): its keys -/
def keyB : Key → U | .inl i => .int i | .inr x => .str x
def tupK (k : List Key) : U := .tup (k.map keyB)
def eListDT (fa : EvA) : EvL := fun us h => (fa us h).bind fun xs h1 => match xs with
  | [.ref p] => (match h1[p]? with | some (.dt kvs) => .ok (kvs.map fun p => tupK p.1) h1 | _ => .no)
  | _ => .no
theorem r_key {w : Wd} : ∀ k : Key, R G w (keyB k) (kV k)
  | .inl i => .int i
  | .inr x => .str x
theorem rl_key {w : Wd} : ∀ k : List Key, RL G w (k.map keyB) (k.map kV)
  | [] => .nil
  | x :: r => .cons (r_key x) (rl_key r)
theorem rl_keys {w : Wd} : ∀ {kvs : List (List Key × U)} {ws : List V} {bs : List Addr}, IsKeys w.H ((kvs.map (·.1)).zip ws) bs → kvs.length = ws.length → RL G w (kvs.map fun p => tupK p.1) (bs.map V.ref)
  | [], _, _, h, _ => by
    cases h
    exact .nil
  | p :: r, [], _, _, e => by cases e
  | p :: r, v :: ws, _, h, e => by
    cases h with
    | cons h1 h2 => exact .cons (.tup (.new h1) (rl_key _)) (rl_keys h2 (by simpa using e))
theorem f_listDT {p : Pos} (hc : X.calm = true) (hg : Gl X "list") (hm : X.mg "list" = none) (ha : PA X [e] (tA G fA W)) (he : starEach [e] X.env = (false, eval e X.env) :: starEach [] X.env := by rfl) : PE X (.Call (.Name "list" p) [e] [] pos) (tN G (eListDT fA) W) :=
  PE.imp (pe_callTy (call_list_dT hc) hg hm (by decide +kernel) ha (he := he)) fun σ _ Q ⟨us, w, e, m, sl, h⟩ => by
    subst e
    refine ⟨us, w, rfl, m, sl, (PtN.bind h).imp ?_⟩
    rintro vs H1 ⟨w1, xs, rfl, e1, m1, r1, h1⟩
    split at h1
    · rename_i q
      split at h1
      · rename_i kvs q2
        cases r1 with
        | cons r t =>
          cases t
          cases r with
          | @ref _ d hr =>
            cases m1.obj _ _ _ hr q2 with
            | @dt _ ws hv l =>
              refine ⟨d, _, rfl, .inl hv, fun p bs hp hk => newL e1 m1 (rl_keys hk ?_) rfl h1 hp⟩
              rw [← l.length, List.length_map]
      · exact h1.elim
    · exact h1.elim
end
/-! ### sum of a list or a tuple -/
def rSumA (K : PySem.W.Frag) : List V → Hp → VK → Prop := fun vs H Q => ∃ (a : Addr) (ns : List Int), vs = [V.ref a] ∧ (SqL K H a (ns.map V.int) ∨ SqT K H a (ns.map V.int)) ∧ Q (.int ns.sum) H
theorem cr_sumA {X : Cx} (hc : X.calm = true) : CallR X (.builtin "sum") (rSumA X.K) := by
  intro pins s σ H vs us Q I r h
  obtain ⟨a, ns, rfl, hs | hs, q⟩ := h
  · exact cr_sum hc pins s σ H _ us Q I r ⟨a, ns, rfl, hs, q⟩
  · obtain ⟨its, rv, hl, _⟩ := I.tuple hs
    rw [Vals.ref1 r]
    have hi := rv.ints
    obtain ⟨xs, e⟩ := hi.allInts.items
    have hn : numsOf (intItems xs).toList = ns := by rw [← e]; exact hi.numsOf
    rw [nums_intItems] at hn
    rw [e] at hl
    refine PySem.W.ktm_sumG (I.ok.hd hc) hl fun h' tk t' hk => ?_
    rw [preSum_eq, List.take_of_length_le (by simp), hn]
    exact ⟨.int _, H, I.kept hk, ⟨_, rfl⟩, q⟩
def kSumA (xs : List U) (h : List UO) : Rs U := match xs with
  | [u] => (match seqU h u with | some xs => (match toInts xs with | some ns => .ok (.int (sumI ns)) h | _ => .no) | none => .no)
  | _ => .no
theorem ok_sumA {G : Cfg} : OpC G (rSumA G.K) kSumA := by
  intro w σ W xs vs Q m l h
  unfold kSumA at h
  split at h
  · rename_i u
    split at h
    · rename_i ys q
      split at h
      · rename_i ns q2
        cases l with
        | cons r t =>
          cases t
          obtain ⟨p, vs, rfl, hs, l⟩ := seqU_of m r q
          obtain ⟨rfl, _⟩ := toInts_of l q2
          refine ⟨p, ns, rfl, hs, ?_⟩
          rw [← sumI_eq]
          exact h.int m
      · exact h.elim
    · exact h.elim
  · exact h.elim
theorem f_sumA {X : Cx} {G : Cfg} {W : WX} {e : Expr} {fa : EvA} {pos p : Pos} (hK : X.K = G.K) (hc : X.calm = true) (hg : Gl X "sum") (hm : X.mg "sum" = none) (ha : PA X [e] (tA G fa W)) (he : starEach [e] X.env = (false, eval e X.env) :: starEach [] X.env := by rfl) : PE X (.Call (.Name "sum" p) [e] [] pos) (tE G (eCall kSumA fa) W) :=
  f_callB (r := rSumA X.K) (cr_sumA hc) (hK ▸ ok_sumA) hg hm (by decide +kernel) ha (he := he)
end Fn
/-! a tuple whose object is known without a dict: its method index -/
namespace L2
open PySem PySem.Spec PyProof.Rows
theorem call_tuple_ofX {X : Cx} : CallR X (.type "tuple") (fun xs H Q => ∃ p ys, xs = [.ref p] ∧ SqL X.K H p ys ∧ ∀ (l : Addr) (o : Obj), o.dict = none → H l = none → Q (.ref l) (upd H l (.frz o (.tup ys)))) := by
  intro pins s σ H xs us Q I r h
  obtain ⟨p, ys, rfl, hq, q⟩ := h
  obtain ⟨u, rfl, rx⟩ := vals1 r
  cases rx
  obtain ⟨its, r', pl, hz⟩ := I.list hq
  have hlen := r'.length
  refine call_tuple_list pl.isList (fun h' kp => ?_) (by simp only [List.size_toArray] <;> omega)
  have I1 : Inv X pins σ H { s with heap := h' } := I.kept (t' := s.toks) kp
  have I2 : Inv X pins σ (upd H h'.objs.size (.frz { cls := .type "tuple", data := .seq its.toArray } (.tup ys))) { s with heap := h'.push { cls := .type "tuple", data := .seq its.toArray } } :=
    I1.laid (t' := s.toks) (fun b o e => Heap.get?_push_of_some _ e) (Nat.le_refl _) (show ObjOk X.prog X.w _ _ _ (.frz _ (.tup ys)) from ⟨Heap.get?_push_size _ rfl, hz, its, r', IsTup.new _ _⟩)
  exact ⟨.ref h'.objs.size, _, I2, rfl, q _ _ rfl (I1.hok.fresh (Nat.le_refl _))⟩
def tyX (x : V) (H : Hp) : Prop := ∃ p o xs, x = .ref p ∧ H p = some (.frz o (.tup xs)) ∧ o.dict = none
theorem tyX_is {X : Cx} {pins : List (Addr × Obj)} {σ : St} {H : Hp} {s : Shared} {x : V} {v : Value} (I : Inv X pins σ H s) (r : RelV x v) (ty : tyX x H) :
    s.TypeIs v "tuple" ∧ ∀ a, v = .ref a → ∃ ob, s.heap.get? a = some ob ∧ ob.dict = none := by
  obtain ⟨p, o, xs, rfl, h, hd⟩ := ty
  cases r
  obtain ⟨e, z, its, rv, o', e', c, n, d⟩ := (show ObjOk X.prog X.w H s.heap p (.frz o (.tup xs)) from I.hok p _ h)
  exact ⟨⟨o', e', c⟩, fun a ea => by cases ea; exact ⟨o, e, hd⟩⟩
def tBMX (r : V → List V → Hp → VK → Prop) (to : TE) (t : TA) : TE := fun σ H Q => to σ H fun x H1 => tyX x H1 ∧ t σ H1 fun xs H2 => r x xs H2 Q
theorem pe_bmX {X : Cx} {o e : Expr} {es : List Expr} {to : TE} {t : TA} {name : Str} {apos cpos : Pos} {id : String} {r : V → List V → Hp → VK → Prop} (pa : PlainAttrs "tuple") (slot : Slot "tuple" name id) (hty : typeOf (.builtin id) = pure (.type "method_descriptor")) (hm : MtR X id r) (ho : PE X o to) (ha : PA X (e :: es) t)
    (hbase : attributeBase o name X.env (eval o X.env) = eval o X.env := by rfl)
    (hfew : ((backTo cpos (starEach (e :: es) X.env)).all (fun x => !x.1) && (backToKw cpos (keywordEach [] X.env)).all (fun x => x.1.isSome)
      && decide ((e :: es).length + ([] : List Keyword).length + (if ([] : List Keyword).isEmpty then 0 else 1) < 30)) = true := by rfl)
    (hline : (apos.endLine == cpos.line) = true := by rfl) (hs : starEach (e :: es) X.env = (false, eval e X.env) :: starEach es X.env := by rfl) (hplain : (backTo cpos (starEach es X.env)).any (·.1) = false := by rfl) :
    PE X (.Call (.Attribute o name apos) (e :: es) [] cpos) (tBMX r to t) := by
  refine ⟨fun pins s σ H Q I h => ?_⟩
  refine wpAny_Call_method_late hbase hfew hline rfl (thn (ho.run pins s σ H _ I h) fun v s1 ⟨x, H1, I1, r1, ty, q1⟩ => ?_)
  obtain ⟨h1, h2⟩ := tyX_is I1 r1 ty
  refine ⟨"tuple", id, pa, slot, hty, h1, h2, ?_⟩
  have hA := ha.run cpos pins s1 σ H1 _ I1 q1
  rw [hs] at hA ⊢
  refine Calls.callWith_builtin (by show (false || (backTo cpos (starEach es X.env)).any (·.1)) = false; rw [hplain] <;> rfl) (Calls.evalArgs_plain ?_)
  exact thn hA fun us s2 ⟨vs, H2, I2, r2, q2⟩ => hm pins s2 σ H2 x vs v us Q I2 r1 r2 q2
def rIndexT (K : PySem.W.Frag) : V → List V → Hp → VK → Prop := fun x xs H Q => ∃ (a : Addr) (ys : List V) (y : V) (j : Nat) (z : V), x = V.ref a ∧ xs = [y] ∧ SqT K H a ys ∧ flatV y = true ∧ ys.all flatV = true ∧ ys[j]? = some z ∧ eqV z y = true ∧
  (∀ (m : Nat) (z' : V), m < j → ys[m]? = some z' → eqV z' y = false) ∧ Q (.int (j : Nat)) H
theorem mt_indexT {X : Cx} : MtR X "tuple.index" (rIndexT X.K) := by
  intro pins s σ H x xs v us Q I rx rxs h
  obtain ⟨a, ys, y, j, z, rfl, rfl, hs, fy, fys, hz, hzj, hno, q⟩ := h
  cases rx
  cases rxs with
  | cons ry rt =>
    rename_i uy ut
    cases rt
    obtain ⟨its, rv, ⟨⟨cls, dd, data, sl⟩, ho, hc, n, hd⟩, hlen⟩ := I.tuple hs
    simp only at hc hd
    subst hc hd
    obtain ⟨u, hu, ru⟩ := rv.get hz
    obtain ⟨hjl, hje⟩ := List.getElem?_eq_some_iff.mp hu
    have hvl := rv.length
    have hj : j < its.toArray.size := by simpa using hjl
    refine call_meets PySem.F.slot_tuple_index ⟨_, ho, rfl⟩ PySem.F.entry_tuple_index (PySem.F.args_tuple_index_2 _ _)
      (TI.tuple_indexAt a its.toArray n dd sl uy (eqU y) j hj ?_ ?_) ⟨ho, fun u' hu' => mem_eqAt ry fy rv fys u' (by simpa using hu'), ?_⟩
    · have e1 : its.toArray[j] = u := by simpa using hje
      rw [e1, eqU_of ru (flat_at fys hz)]
      exact hzj
    · intro m hm hmj
      have hml : m < its.length := by simpa using hm
      have hmy : m < ys.length := by omega
      have hy' : ys[m]? = some ys[m] := List.getElem?_eq_getElem hmy
      obtain ⟨u2, hu2, ru2⟩ := rv.get hy'
      obtain ⟨_, hme⟩ := List.getElem?_eq_some_iff.mp hu2
      have e1 : its.toArray[m] = u2 := by simpa using hme
      rw [e1, eqU_of ru2 (flat_at fys hy')]
      exact hno m _ hmj hy'
    · exact ⟨.int (j : Nat), H, I.tok _, ⟨_, rfl⟩, q⟩
end L2
namespace Fn
open PySem L2 PySem.Spec PyProof.Rows
/-- a known tuple as any tuple -/
def unX : U → U | .tx xs => .tup xs | u => u
def eUnX (f : Ev) : Ev := fun us h => (f us h).bind fun u h1 => .ok (unX u) h1
section
variable {X : Cx} {G : Cfg} {W : WX} {o e : Expr} {fo f : Ev} {fa : EvA} {p pos apos cpos : Pos}
theorem R.unX {w : Wd} (hk : ∀ vs, G.kt vs) {u : U} {v : V} (r : R G w u v) : R G w (unX u) v := by
  cases r with
  | tx h d l => exact .tup ⟨.inl (.inr ⟨_, h⟩), .inl (hk _)⟩ l
  | non => exact .non
  | bl b => exact .bl b
  | int b => exact .int b
  | str b => exact .str b
  | ty b => exact .ty b
  | cls _ => exact .cls _
  | tup h l => exact .tup h l
  | fl h n l => exact .fl h n l
  | scr h => exact .scr h
  | ob h n hl l => exact .ob h n hl l
  | ref h => exact .ref h
theorem f_unX (hk : ∀ vs, G.kt vs) (he : PE X e (tE G f W)) : PE X e (tE G (eUnX f) W) := PE.imp he fun σ _ Q ⟨us, w, e, m, sl, h⟩ => by
  subst e
  refine ⟨us, w, rfl, m, sl, (Pt.bind (Rel := R G) h).imp ?_⟩
  rintro v H1 ⟨w1, u, rfl, e1, m1, r1, h1⟩
  exact h1 w1 v rfl (Ext.refl _) m1 (r1.unX hk)
/-- tuple(x) -/
def eTupX (fa : EvA) : Ev := fun us h => (fa us h).bind fun xs h1 => match xs with
  | [u] => (match lstU h1 u with | some ys => .ok (.tx ys) h1 | none => .no)
  | _ => .no
theorem Ext.frz {w : Wd} {p : Addr} {ob : Obj} {vs : List V} (hp : w.H p = none) : Ext w (w.new p (.frz ob (.tup vs))) := Ext.new hp
theorem f_tupX (hK : X.K = G.K) (hg : Gl X "tuple") (hm : X.mg "tuple" = none) (ha : PA X [e] (tA G fa W)) (he : starEach [e] X.env = (false, eval e X.env) :: starEach [] X.env := by rfl) : PE X (.Call (.Name "tuple" p) [e] [] pos) (tE G (eTupX fa) W) :=
  PE.imp (pe_callTy call_tuple_ofX hg hm (by decide +kernel) ha (he := he)) fun σ _ Q ⟨us, w, e, m, sl, h⟩ => by
    subst e
    refine ⟨us, w, rfl, m, sl, (Pt.bind (Rel := RL G) h).imp ?_⟩
    rintro vs H1 ⟨w1, xs, rfl, e1, m1, r1, h1⟩
    split at h1
    · rename_i u
      split at h1
      · rename_i ys q
        cases r1 with
        | cons r t =>
          cases t
          obtain ⟨p, vs, rfl, hs, l⟩ := lstU_of m1 r q
          refine ⟨p, vs, rfl, by rw [hK]; exact hs, fun l o hd hl => h1 (w1.new l (.frz o (.tup vs))) (.ref l) rfl (Ext.new hl) (m1.new hl) (.tx upd_same hd ?_)⟩
          rename_i lx
          exact lx.up m1 (Ext.new hl)
      · exact h1.elim
    · exact h1.elim
/-- t.index(n), all ints -/
def eIndexX (fo : Ev) (fa : EvA) : Ev := fun us h => (fo us h).bind fun u h1 => match u with
  | .tx xs => ((fa us h1).bind fun as h2 => match as with
    | [.int n] => (match toInts xs with | some ns => (match idxI n ns 0 with | some j => .ok (.int (j : Nat)) h2 | none => .no) | none => .no)
    | _ => .no)
  | _ => .no
theorem f_indexX (hK : X.K = G.K) (ho : PE X o (tE G fo W)) (ha : PA X [e] (tA G fa W)) (hbase : attributeBase o "index" X.env (eval o X.env) = eval o X.env := by rfl)
    (hline : (apos.endLine == cpos.line) = true := by rfl) (hs : starEach [e] X.env = (false, eval e X.env) :: starEach [] X.env := by rfl)
    (hfew : ((backTo cpos (starEach [e] X.env)).all (fun x => !x.1) && (backToKw cpos (keywordEach [] X.env)).all (fun x => x.1.isSome)
      && decide ([e].length + ([] : List Keyword).length + (if ([] : List Keyword).isEmpty then 0 else 1) < 30)) = true := by rfl) :
    PE X (.Call (.Attribute o "index" apos) [e] [] cpos) (tE G (eIndexX fo fa) W) :=
  PE.imp (pe_bmX PySem.F.plainAttrs_tuple PySem.F.slot_tuple_index PySem.F.type_tuple_index mt_indexT ho ha hbase hfew hline hs rfl) fun σ _ Q ⟨us, w, e, m, sl, h⟩ => by
    subst e
    refine ⟨us, w, rfl, m, sl, (Pt.bind (Rel := R G) h).imp ?_⟩
    rintro v H1 ⟨w1, u, rfl, e1, m1, r1, h1⟩
    split at h1
    · rename_i xs
      have r1' := r1
      cases r1' with
      | @tx a ob _ vs hh hd l =>
        refine ⟨⟨a, ob, vs, rfl, hh, hd⟩, us, w1, rfl, m1, sl.up m e1, (Pt.bind (Rel := RL G) h1).imp ?_⟩
        rintro zs H2 ⟨w2, as, rfl, e2, m2, r2, h2⟩
        have r3 := r1.up m1 e2
        split at h2
        · rename_i n
          cases r2 with
          | cons ry t =>
            cases t
            cases ry
            split at h2
            · rename_i ns q2
              split at h2
              · rename_i j q3
                cases r3 with
                | @tx _ ob2 _ ws hh2 hd2 l2 =>
                  obtain ⟨e1, e2⟩ := toInts_of l2 q2
                  subst e1
                  obtain ⟨k, hk, h1, h3⟩ := idxI_spec q3
                  have hk : j = k := by omega
                  subst hk
                  refine ⟨a, ns.map V.int, .int n, j, .int n, rfl, rfl, .inl (.inr ⟨_, hh2⟩), rfl, flat_ints ns, by rw [List.getElem?_map, h1]; rfl, by simp [eqV], fun i z hi hz => ?_, h2.val m2 (.int _)⟩
                  rw [List.getElem?_map] at hz
                  cases hy : ns[i]? with
                  | none => rw [hy] at hz; cases hz
                  | some y =>
                    rw [hy] at hz
                    cases hz
                    have := h3 i y hi hy
                    simp [eqV, this]
              · exact h2.elim
            · exact h2.elim
        · exact h2.elim
    · exact h1.elim
end
end Fn
/-! what an evaluator does not look at: slots vs -/
namespace Fn
open PySem L2
/-- alike but for the slots vs -/
structure Eqx (vs : List Nat) (us us' : Lo) : Prop where
  len : us.length = us'.length
  at' : ∀ j, j ∉ vs → us[j]? = us'[j]?
/-- the slots vs are kept -/
def Kpt (vs : List Nat) (us a : Lo) : Prop := a.length = us.length ∧ ∀ j ∈ vs, a[j]? = us[j]?
def Ind {β : Type} (vs : List Nat) (f : Lo → List UO → β) : Prop := ∀ us us' h, Eqx vs us us' → f us h = f us' h
def RelRt (vs : List Nat) (us us' : Lo) : Rt → Rt → Prop
  | .nx a h, .nx a' h' => h = h' ∧ Eqx vs a a' ∧ Kpt vs us a ∧ Kpt vs us' a'
  | .bk a h, .bk a' h' => h = h' ∧ Eqx vs a a' ∧ Kpt vs us a ∧ Kpt vs us' a'
  | .ct a h, .ct a' h' => h = h' ∧ Eqx vs a a' ∧ Kpt vs us a ∧ Kpt vs us' a'
  | .rt u h, .rt u' h' => u = u' ∧ h = h'
  | .ex e a h, .ex e' a' h' => e = e' ∧ h = h' ∧ Eqx vs a a' ∧ Kpt vs us a ∧ Kpt vs us' a'
  | .no, .no => True
  | _, _ => False
def IndS (vs : List Nat) (g : Sv) : Prop := ∀ us us' h, Eqx vs us us' → RelRt vs us us' (g us h) (g us' h)
def IndT (vs : List Nat) (tg : Tgt) : Prop := ∀ x us us', Eqx vs us us' → match tg x us, tg x us' with
  | some a, some a' => Eqx vs a a' ∧ Kpt vs us a ∧ Kpt vs us' a'
  | none, none => True
  | _, _ => False
section
variable {vs : List Nat}
theorem Kpt.refl (us : Lo) : Kpt vs us us := ⟨rfl, fun _ _ => rfl⟩
theorem Kpt.trans {us a b : Lo} (h1 : Kpt vs us a) (h2 : Kpt vs a b) : Kpt vs us b := ⟨h2.1.trans h1.1, fun j hj => (h2.2 j hj).trans (h1.2 j hj)⟩
theorem Eqx.set {us us' : Lo} (e : Eqx vs us us') {i : Nat} (hi : i ∉ vs) (u : Option U) : Eqx vs (us.set i u) (us'.set i u) := by
  refine ⟨by simp [e.len], fun j hj => ?_⟩
  by_cases q : i = j
  · subst q
    by_cases hl : i < us.length
    · rw [List.getElem?_set_self hl, List.getElem?_set_self (by rw [← e.len]; exact hl)]
    · rw [List.getElem?_eq_none (by simpa using hl), List.getElem?_eq_none (by simpa [← e.len] using hl)]
  · rw [List.getElem?_set_ne q, List.getElem?_set_ne q]
    exact e.at' j hj
theorem Kpt.set {us : Lo} {i : Nat} (hi : i ∉ vs) (u : Option U) : Kpt vs us (us.set i u) := by
  refine ⟨by simp, fun j hj => ?_⟩
  have ne : i ≠ j := fun z => hi (by rw [z]; exact hj)
  rw [List.getElem?_set_ne ne]
theorem Eqx.wipe {us us' : Lo} (e : Eqx vs us us') : ∀ {ws : List Nat}, (∀ j ∈ ws, j ∉ vs) → Eqx vs (wipeU us ws) (wipeU us' ws)
  | [], _ => e
  | v :: ws, h => (Eqx.wipe e fun j hj => h j (List.mem_cons_of_mem _ hj)).set (h v List.mem_cons_self) none
theorem Ind.rs {α β : Type} {f : Lo → List UO → Rs α} {k : α → Lo → List UO → Rs β} (hf : Ind vs f) (hk : ∀ a, Ind vs (k a)) : Ind vs (fun us h => (f us h).bind fun a h1 => k a us h1) := fun us us' h e => by
  show (f us h).bind _ = (f us' h).bind _
  rw [hf us us' h e]
  cases f us' h with
  | ok a h1 => exact hk a us us' h1 e
  | ex _ _ => rfl
  | no => rfl
theorem Ind.const {β : Type} (g : List UO → β) : Ind vs (fun _ h => g h) := fun _ _ _ _ => rfl
theorem i_var {i : Nat} (hi : i ∉ vs) : Ind vs (eVar i) := fun us us' h e => by
  unfold eVar
  rw [e.at' i hi]
theorem i_C (u : U) : Ind vs (eC u) := fun _ _ _ _ => rfl
theorem i_e1 {k : U → List UO → Rs U} {fa : Ev} (ha : Ind vs fa) : Ind vs (e1 k fa) := ha.rs fun a => .const (k a)
theorem i_e2 {k : U → U → List UO → Rs U} {fa fb : Ev} (ha : Ind vs fa) (hb : Ind vs fb) : Ind vs (e2 k fa fb) := ha.rs fun a => hb.rs fun b => .const (k a b)
theorem i_nil : Ind vs eNil := fun _ _ _ _ => rfl
theorem i_cons {fa : Ev} {fr : EvA} (ha : Ind vs fa) (hr : Ind vs fr) : Ind vs (eCons fa fr) := ha.rs fun a => hr.rs fun r => .const (fun h => Rs.ok (a :: r) h)
theorem i_call {k : List U → List UO → Rs U} {fa : EvA} (ha : Ind vs fa) : Ind vs (eCall k fa) := ha.rs fun a => .const (k a)
theorem i_callG {n : Nat} {f : Fg} {fa : EvA} (ha : Ind vs fa) : Ind vs (eCallG n f fa) := ha.rs fun _ => .const _
theorem i_callR {n : Nat} {f : Fg} {fa : EvA} (ha : Ind vs fa) : Ind vs (eCallR n f fa) := ha.rs fun _ => .const _
theorem i_callH {n : Nat} {f : Fh} {fa : EvA} (ha : Ind vs fa) : Ind vs (eCallH n f fa) := ha.rs fun _ => .const _
theorem i_unX {f : Ev} (ha : Ind vs f) : Ind vs (eUnX f) := ha.rs fun _ => .const _
theorem i_tup {fa : EvA} (ha : Ind vs fa) : Ind vs (eTup fa) := ha.rs fun _ => .const _
theorem i_lst {fa : EvA} (ha : Ind vs fa) : Ind vs (eLst fa) := ha.rs fun _ => .const _
theorem i_F {f : EvL} (ha : Ind vs f) : Ind vs (eF f) := ha.rs fun xs => .const (fun h => Rs.ok (U.fl xs) h)
theorem i_T {f : EvL} (ha : Ind vs f) : Ind vs (eT f) := ha.rs fun _ => .const _
theorem i_listOf {fa : EvA} (ha : Ind vs fa) : Ind vs (eListOf fa) := ha.rs fun _ => .const _
theorem i_rg1 {f : Ev} (ha : Ind vs f) : Ind vs (eRg1 f) := ha.rs fun _ => .const _
theorem i_rg2 {f g : Ev} (ha : Ind vs f) (hb : Ind vs g) : Ind vs (eRg2 f g) := ha.rs fun _ => hb.rs fun _ => .const _
theorem i_LRg {f : EvR} (ha : Ind vs f) : Ind vs (eLRg f) := ha.rs fun _ => .const _
theorem i_TRg {f : EvR} (ha : Ind vs f) : Ind vs (eTRg f) := ha.rs fun _ => .const _
theorem i_TRg3 {fa : EvA} (ha : Ind vs fa) : Ind vs (eTRg3 fa) := ha.rs fun _ => .const _
theorem i_N2 {k : U → U → List UO → Rs (List U)} {fa fb : Ev} (ha : Ind vs fa) (hb : Ind vs fb) : Ind vs (eN2 k fa fb) := ha.rs fun a => hb.rs fun b => .const (k a b)
theorem i_RevN {f : Ev} (ha : Ind vs f) : Ind vs (eRevN f) := ha.rs fun a => .const (nRev a)
theorem i_oNo : Ind vs oNo := fun _ _ _ _ => rfl
theorem i_oE {f : Ev} (ha : Ind vs f) : Ind vs (oE f) := ha.rs fun _ => .const _
theorem i_Sl {f : Ev} {lo hi : EvO} (ha : Ind vs f) (hl : Ind vs lo) (hh : Ind vs hi) : Ind vs (eSl f lo hi) := ha.rs fun x => hl.rs fun a => hh.rs fun b => .const (kSl x a b)
theorem i_SlN {f : Ev} {lo hi : EvO} (ha : Ind vs f) (hl : Ind vs lo) (hh : Ind vs hi) : Ind vs (eSlN f lo hi) := ha.rs fun x => hl.rs fun a => hh.rs fun b => .const (nSl x a b)
theorem i_bE {f : Ev} (ha : Ind vs f) : Ind vs (bE f) := ha.rs fun _ => .const _
theorem i_bTru {f : Ev} (ha : Ind vs f) : Ind vs (bTru f) := ha.rs fun _ => .const _
theorem i_bYes : Ind vs bYes := fun _ _ _ _ => rfl
theorem i_bNot {f : EvB} (ha : Ind vs f) : Ind vs (bNot f) := ha.rs fun _ => .const _
theorem i_bAnd {f g : EvB} (ha : Ind vs f) (hb : Ind vs g) : Ind vs (bAnd f g) := ha.rs fun c us us' h e => by
  cases c with
  | true => exact hb us us' h e
  | false => rfl
theorem i_bOr {f g : EvB} (ha : Ind vs f) (hb : Ind vs g) : Ind vs (bOr f g) := ha.rs fun c us us' h e => by
  cases c with
  | true => rfl
  | false => exact hb us us' h e
theorem i_andV {f g : Ev} (ha : Ind vs f) (hb : Ind vs g) : Ind vs (eAndV f g) := ha.rs fun c us us' h e => by
  cases c with
  | bl b => cases b with
    | true => exact hb us us' h e
    | false => rfl
  | _ => rfl
theorem i_orV {f g : Ev} (ha : Ind vs f) (hb : Ind vs g) : Ind vs (eOrV f g) := ha.rs fun c us us' h e => by
  cases c with
  | bl b => cases b with
    | true => rfl
    | false => exact hb us us' h e
  | _ => rfl
theorem i_notV {f : Ev} (ha : Ind vs f) : Ind vs (eNotV f) := ha.rs fun _ => .const _
theorem i_if {c : EvB} {f g : Ev} (hc : Ind vs c) (ha : Ind vs f) (hb : Ind vs g) : Ind vs (eIf c f g) := hc.rs fun c us us' h e => by
  cases c with
  | true => exact ha us us' h e
  | false => exact hb us us' h e
theorem i_Mt {k : U → List U → List UO → Rs U} {fo : Ev} {fa : EvA} (ho : Ind vs fo) (ha : Ind vs fa) : Ind vs (eMt k fo fa) := ho.rs fun u us us' h e => by
  cases lstU h u with
  | none => rfl
  | some _ => exact (ha.rs fun a => .const (k u a)) us us' h e
theorem i_Mt0 {k : U → List U → List UO → Rs U} {fo : Ev} (ho : Ind vs fo) : Ind vs (eMt0 k fo) := ho.rs fun _ => .const _
theorem i_r1 {f : Ev} (ha : Ind vs f) : Ind vs (ir1 f) := ha.rs fun _ => .const _
theorem i_r2 {f g : Ev} (ha : Ind vs f) (hb : Ind vs g) : Ind vs (ir2 f g) := ha.rs fun _ => hb.rs fun _ => .const _
theorem i_r3 {f g k : Ev} (ha : Ind vs f) (hb : Ind vs g) (hc : Ind vs k) : Ind vs (ir3 f g k) := ha.rs fun _ => hb.rs fun _ => hc.rs fun _ => .const _
theorem i_en {fa : EvA} (ha : Ind vs fa) : Ind vs (ien fa) := ha.rs fun _ => .const _
theorem i_zp {fa : EvA} (ha : Ind vs fa) : Ind vs (izip fa) := ha.rs fun _ => .const _
theorem i_sq {f : Ev} (ha : Ind vs f) : Ind vs (eSeq f) := ha.rs fun _ => .const _
/-! ### targets -/
theorem it_name {i : Nat} (hi : i ∉ vs) : IndT vs (aName i) := fun x us us' e => ⟨e.set hi _, .set hi _, .set hi _⟩
def IndTs (vs : List Nat) (b : List U → Lo → Option Lo) : Prop := ∀ xs us us', Eqx vs us us' → match b xs us, b xs us' with
  | some a, some a' => Eqx vs a a' ∧ Kpt vs us a ∧ Kpt vs us' a'
  | none, none => True
  | _, _ => False
theorem its_nil : IndTs vs aNil := fun xs us us' e => by
  cases xs with
  | nil => exact ⟨e, .refl _, .refl _⟩
  | cons _ _ => trivial
theorem its_cons {a : Tgt} {b : List U → Lo → Option Lo} (ha : IndT vs a) (hb : IndTs vs b) : IndTs vs (aCons a b) := fun xs us us' e => by
  cases xs with
  | nil => trivial
  | cons x r =>
    have h1 := ha x us us' e
    unfold aCons
    dsimp only
    cases q : a x us with
    | none =>
      rw [q] at h1
      cases q' : a x us' with
      | none => trivial
      | some _ => rw [q'] at h1; exact h1.elim
    | some w =>
      rw [q] at h1
      cases q' : a x us' with
      | none => rw [q'] at h1; exact h1.elim
      | some w' =>
        rw [q'] at h1
        obtain ⟨e1, k1, k1'⟩ := h1
        have h2 := hb r w w' e1
        dsimp only
        cases q2 : b r w with
        | none =>
          rw [q2] at h2
          cases q2' : b r w' with
          | none => trivial
          | some _ => rw [q2'] at h2; exact h2.elim
        | some z =>
          rw [q2] at h2
          cases q2' : b r w' with
          | none => rw [q2'] at h2; exact h2.elim
          | some z' =>
            rw [q2'] at h2
            exact ⟨h2.1, k1.trans h2.2.1, k1'.trans h2.2.2⟩
theorem it_tup {b : List U → Lo → Option Lo} (hb : IndTs vs b) : IndT vs (aTup b) := fun x us us' e => by
  cases x with
  | tup xs => exact hb xs us us' e
  | _ => trivial
/-- both ways of a target -/
theorem IndT.cases {tg : Tgt} (h : IndT vs tg) {x : U} {us us' : Lo} (e : Eqx vs us us') : (tg x us = none ∧ tg x us' = none) ∨ ∃ a a', tg x us = some a ∧ tg x us' = some a' ∧ Eqx vs a a' ∧ Kpt vs us a ∧ Kpt vs us' a' := by
  have h1 := h x us us' e
  cases q : tg x us with
  | none =>
    rw [q] at h1
    cases q' : tg x us' with
    | none => exact .inl ⟨rfl, rfl⟩
    | some _ => rw [q'] at h1; exact h1.elim
  | some a =>
    rw [q] at h1
    cases q' : tg x us' with
    | none => rw [q'] at h1; exact h1.elim
    | some a' => rw [q'] at h1; exact .inr ⟨a, a', rfl, rfl, h1⟩
/-! ### comprehensions -/
theorem i_lcL {tg : Tgt} {ts : EvB} {el : Ev} (ht : IndT vs tg) (hs : Ind vs ts) (he : Ind vs el) {us us' : Lo} (e : Eqx vs us us') : ∀ (xs : List U) (h : List UO), lcL tg ts el us xs h = lcL tg ts el us' xs h
  | [], _ => rfl
  | x :: r, h => by
    unfold lcL
    rcases ht.cases (x := x) e with ⟨q, q'⟩ | ⟨a, a', q, q', e1, _, _⟩
    · rw [q, q']
    · rw [q, q']
      dsimp only
      rw [hs a a' h e1]
      cases ts a' h with
      | ok b h1 =>
        cases b with
        | false => exact i_lcL ht hs he e r h1
        | true =>
          dsimp only
          rw [he a a' h1 e1]
          cases el a' h1 with
          | ok y h2 =>
            dsimp only
            rw [i_lcL ht hs he e r h2]
          | ex _ _ => rfl
          | no => rfl
      | ex _ _ => rfl
      | no => rfl
theorem i_lcD {it : Nat → List UO → Option (Option U)} {tg : Tgt} {ts : EvB} {el : Ev} (ht : IndT vs tg) (hs : Ind vs ts) (he : Ind vs el) {us us' : Lo} (e : Eqx vs us us') : ∀ (n i : Nat) (h : List UO), lcD it tg ts el us n i h = lcD it tg ts el us' n i h
  | 0, _, _ => rfl
  | n + 1, i, h => by
    unfold lcD
    cases it i h with
    | none => rfl
    | some o =>
      cases o with
      | none => rfl
      | some x =>
        dsimp only
        rcases ht.cases (x := x) e with ⟨q, q'⟩ | ⟨a, a', q, q', e1, _, _⟩
        · rw [q, q']
        · rw [q, q']
          dsimp only
          rw [hs a a' h e1]
          cases ts a' h with
          | ok b h1 =>
            cases b with
            | false => exact i_lcD ht hs he e n (i + 1) h1
            | true =>
              dsimp only
              rw [he a a' h1 e1]
              cases el a' h1 with
              | ok y h2 =>
                dsimp only
                rw [i_lcD ht hs he e n (i + 1) h2]
              | ex _ _ => rfl
              | no => rfl
          | ex _ _ => rfl
          | no => rfl
theorem i_Lc {fi : EvI} {tg : Tgt} {ts : EvB} {el : Ev} {ws : List Nat} (hw : ∀ j ∈ ws, j ∉ vs) (hi : Ind vs fi) (ht : IndT vs tg) (hs : Ind vs ts) (he : Ind vs el) : Ind vs (eLc fi tg ts el ws) := hi.rs fun s us us' h e => by
  have z : lcS tg ts el (wipeU us ws) s h = lcS tg ts el (wipeU us' ws) s h := by
    cases s with
    | fix xs => exact i_lcL ht hs he (e.wipe hw) xs h
    | dyn it => exact i_lcD ht hs he (e.wipe hw) 100000 0 h
  show (match lcS tg ts el (wipeU us ws) s h with | .ok ys h2 => (match Nat.blt ys.length 16777216 with | true => Rs.ok ys h2 | false => .no) | _ => .no) = _
  rw [z] <;> rfl
/-! ### statements -/
theorem RelRt.then {α : Type} {r : Rs α} {us us' : Lo} {k k' : α → List UO → Rt} (e : Eqx vs us us') (hk : ∀ a h, RelRt vs us us' (k a h) (k' a h)) : RelRt vs us us' (r.then us k) (r.then us' k') := by
  cases r with
  | ok a h => exact hk a h
  | ex x h => exact ⟨rfl, rfl, e, .refl _, .refl _⟩
  | no => trivial
theorem is_nx : IndS vs gNx := fun us us' h e => ⟨rfl, e, .refl _, .refl _⟩
theorem is_bk : IndS vs gBk := fun us us' h e => ⟨rfl, e, .refl _, .refl _⟩
theorem is_ct : IndS vs gCt := fun us us' h e => ⟨rfl, e, .refl _, .refl _⟩
theorem is_retN : IndS vs gRetN := fun us us' h e => ⟨rfl, rfl⟩
theorem is_ex {f : Ev} (hf : Ind vs f) : IndS vs (gEx f) := fun us us' h e => by
  unfold gEx
  rw [hf us us' h e]
  exact RelRt.then e fun _ h1 => ⟨rfl, e, .refl _, .refl _⟩
theorem is_ret {f : Ev} (hf : Ind vs f) : IndS vs (gRet f) := fun us us' h e => by
  unfold gRet
  rw [hf us us' h e]
  exact RelRt.then e fun _ h1 => ⟨rfl, rfl⟩
theorem is_set {i : Nat} {f : Ev} (hi : i ∉ vs) (hf : Ind vs f) : IndS vs (gSet i f) := fun us us' h e => by
  unfold gSet
  rw [hf us us' h e]
  exact RelRt.then e fun u h1 => ⟨rfl, e.set hi _, .set hi _, .set hi _⟩
theorem is_put {fo fi fv : Ev} (ho : Ind vs fo) (hi : Ind vs fi) (hv : Ind vs fv) : IndS vs (gPut fo fi fv) := fun us us' h e => by
  unfold gPut
  rw [hv us us' h e]
  refine RelRt.then e fun v h1 => ?_
  rw [ho us us' h1 e]
  refine RelRt.then e fun o h2 => ?_
  rw [hi us us' h2 e]
  refine RelRt.then e fun i h3 => ?_
  exact RelRt.then e fun _ h4 => ⟨rfl, e, .refl _, .refl _⟩
theorem is_asg {a : Tgt} {f : Ev} (ha : IndT vs a) (hf : Ind vs f) : IndS vs (gAsg a f) := fun us us' h e => by
  unfold gAsg
  rw [hf us us' h e]
  refine RelRt.then e fun u h1 => ?_
  rcases ha.cases (x := u) e with ⟨q, q'⟩ | ⟨w, w', q, q', e1, k1, k2⟩
  · rw [q, q']; trivial
  · rw [q, q']; exact ⟨rfl, e1, k1, k2⟩
theorem is_if {c : EvB} {a b : Sv} (hc : Ind vs c) (ha : IndS vs a) (hb : IndS vs b) : IndS vs (gIf c a b) := fun us us' h e => by
  unfold gIf
  rw [hc us us' h e]
  refine RelRt.then e fun b1 h1 => ?_
  cases b1 with
  | true => exact ha us us' h1 e
  | false => exact hb us us' h1 e
theorem RelRt.kpt {us us' w w' : Lo} {r r' : Rt} (k : Kpt vs us w) (k' : Kpt vs us' w') (h : RelRt vs w w' r r') : RelRt vs us us' r r' := by
  cases r <;> cases r' <;> first
    | exact h.elim
    | exact h
    | exact ⟨h.1, h.2.1, k.trans h.2.2.1, k'.trans h.2.2.2⟩
    | exact ⟨h.1, h.2.1, h.2.2.1, k.trans h.2.2.2.1, k'.trans h.2.2.2.2⟩
theorem is_seq {a b : Sv} (ha : IndS vs a) (hb : IndS vs b) : IndS vs (gSeq a b) := fun us us' h e => by
  have h1 := ha us us' h e
  unfold gSeq
  cases q : a us h <;> cases q' : a us' h <;> rw [q, q'] at h1 <;> first
    | exact h1.elim
    | exact h1
    | (obtain ⟨rfl, e1, k1, k2⟩ := h1; exact (hb _ _ _ e1).kpt k1 k2)
theorem i_forL {tg : Tgt} {body : Sv} (ht : IndT vs tg) (hb : IndS vs body) : ∀ (xs : List U) (us us' : Lo) (h : List UO), Eqx vs us us' → RelRt vs us us' (forL tg body xs us h) (forL tg body xs us' h)
  | [], us, us', h, e => ⟨rfl, e, .refl _, .refl _⟩
  | x :: r, us, us', h, e => by
    unfold forL
    rcases ht.cases (x := x) e with ⟨q, q'⟩ | ⟨w, w', q, q', e1, k1, k2⟩
    · rw [q, q']; trivial
    · rw [q, q']
      dsimp only
      have h1 := hb w w' h e1
      cases z : body w h <;> cases z' : body w' h <;> rw [z, z'] at h1 <;> first
        | exact h1.elim
        | (obtain ⟨rfl, e2, k3, k4⟩ := h1; exact (i_forL ht hb r _ _ _ e2).kpt (k1.trans k3) (k2.trans k4))
        | (obtain ⟨rfl, e2, k3, k4⟩ := h1; exact ⟨rfl, e2, k1.trans k3, k2.trans k4⟩)
        | exact h1.kpt k1 k2
theorem i_forD {it : Nat → List UO → Option (Option U)} {tg : Tgt} {body : Sv} (ht : IndT vs tg) (hb : IndS vs body) : ∀ (n i : Nat) (us us' : Lo) (h : List UO), Eqx vs us us' → RelRt vs us us' (forD it tg body n i us h) (forD it tg body n i us' h)
  | 0, _, _, _, _, _ => trivial
  | n + 1, i, us, us', h, e => by
    unfold forD
    cases it i h with
    | none => trivial
    | some o =>
      cases o with
      | none => exact ⟨rfl, e, .refl _, .refl _⟩
      | some x =>
        dsimp only
        rcases ht.cases (x := x) e with ⟨q, q'⟩ | ⟨w, w', q, q', e1, k1, k2⟩
        · rw [q, q']; trivial
        · rw [q, q']
          dsimp only
          have h1 := hb w w' h e1
          cases z : body w h <;> cases z' : body w' h <;> rw [z, z'] at h1 <;> first
            | exact h1.elim
            | (obtain ⟨rfl, e2, k3, k4⟩ := h1; exact (i_forD ht hb n (i + 1) _ _ _ e2).kpt (k1.trans k3) (k2.trans k4))
            | (obtain ⟨rfl, e2, k3, k4⟩ := h1; exact ⟨rfl, e2, k1.trans k3, k2.trans k4⟩)
            | exact h1.kpt k1 k2
theorem is_for {fi : EvI} {tg : Tgt} {body : Sv} (hi : Ind vs fi) (ht : IndT vs tg) (hb : IndS vs body) : IndS vs (gFor fi tg body) := fun us us' h e => by
  unfold gFor
  rw [hi us us' h e]
  refine RelRt.then e fun s h1 => ?_
  cases s with
  | fix xs => exact i_forL ht hb xs us us' h1 e
  | dyn it => exact i_forD ht hb 100000 0 us us' h1 e
/-- what is known of alike slots by one reckoning -/
theorem IndS.nx {g : Sv} (hg : IndS vs g) {us us' a' : Lo} {h h1 : List UO} (e : Eqx vs us us') (q : g us' h = .nx a' h1) : ∃ a, g us h = .nx a h1 ∧ Eqx vs a a' ∧ Kpt vs us a := by
  have z := hg us us' h e
  rw [q] at z
  cases q2 : g us h <;> rw [q2] at z <;> first
    | exact z.elim
    | (obtain ⟨rfl, e1, k1, _⟩ := z; exact ⟨_, rfl, e1, k1⟩)
theorem IndS.rt {g : Sv} (hg : IndS vs g) {us us' : Lo} {u : U} {h h1 : List UO} (e : Eqx vs us us') (q : g us' h = .rt u h1) : g us h = .rt u h1 := by
  have z := hg us us' h e
  rw [q] at z
  cases q2 : g us h <;> rw [q2] at z <;> first
    | exact z.elim
    | (obtain ⟨rfl, rfl⟩ := z; rfl)
end
end Fn
/-! values compared by a Bool; tables of a def's answers -/
namespace Fn
open PySem L2
def sameL (f : U → U → Bool) : List U → List U → Bool
  | [], [] => true
  | x :: r, y :: s => f x y && sameL f r s
  | _, _ => false
def sameU : Nat → U → U → Bool
  | 0, _, _ => false
  | n + 1, a, b => match a, b with
    | .non, .non => true
    | .bl x, .bl y => x == y
    | .int i, .int j => decide (i = j)
    | .tup x, .tup y => sameL (sameU n) x y
    | .fl x, .fl y => sameL (sameU n) x y
    | .ref i, .ref j => Nat.beq i j
    | _, _ => false
theorem sameL_eq {f : U → U → Bool} (hf : ∀ a b, f a b = true → a = b) : ∀ x y, sameL f x y = true → x = y
  | [], [], _ => rfl
  | a :: r, b :: s, h => by
    unfold sameL at h
    rw [Bool.and_eq_true] at h
    rw [hf a b h.1, sameL_eq hf r s h.2]
  | [], _ :: _, h => by cases h
  | _ :: _, [], h => by cases h
theorem sameU_eq : ∀ (n : Nat) (a b : U), sameU n a b = true → a = b
  | 0, _, _, h => by cases h
  | n + 1, a, b, h => by
    have ih := sameU_eq n
    unfold sameU at h
    split at h
    · rfl
    · rw [eq_of_beq h]
    · rw [of_decide_eq_true h]
    · rw [sameL_eq ih _ _ h]
    · rw [sameL_eq ih _ _ h]
    · rw [Nat.eq_of_beq_eq_true h]
    · cases h
def sameS : Option (Option U) → Option (Option U) → Bool
  | none, none => true
  | some none, some none => true
  | some (some a), some (some b) => sameU 6 a b
  | _, _ => false
theorem sameS_eq {a b : Option (Option U)} (h : sameS a b = true) : a = b := by
  unfold sameS at h
  split at h
  · rfl
  · rfl
  · rw [sameU_eq _ _ _ h]
  · cases h
/-- alike at the slots js -/
def sameAt (js : List Nat) (a b : Lo) : Bool := js.all fun j => sameS a[j]? b[j]?
theorem sameAt_of {js : List Nat} {a b : Lo} (h : sameAt js a b = true) : ∀ j ∈ js, a[j]? = b[j]? := fun j hj => sameS_eq (List.all_eq_true.mp h j hj)
def sameK : List (List Key) → List (List Key) → Bool
  | [], [] => true
  | x :: r, y :: s => decide (x = y) && sameK r s
  | _, _ => false
theorem sameK_eq : ∀ x y, sameK x y = true → x = y
  | [], [], _ => rfl
  | a :: r, b :: s, h => by
    unfold sameK at h
    rw [Bool.and_eq_true] at h
    rw [of_decide_eq_true h.1, sameK_eq r s h.2]
  | [], _ :: _, h => by cases h
  | _ :: _, [], h => by cases h
theorem pairs_eq {κ : Type} : ∀ {x y : List (κ × U)}, x.map (·.1) = y.map (·.1) → x.map (·.2) = y.map (·.2) → x = y
  | [], [], _, _ => rfl
  | (a, b) :: r, (c, d) :: s, h1, h2 => by
    injection h1 with e1 e2
    injection h2 with e3 e4
    have e1 : a = c := e1
    have e3 : b = d := e3
    rw [e1, e3, pairs_eq e2 e4]
  | [], _ :: _, h, _ => by cases h
  | _ :: _, [], h, _ => by cases h
def sameO : UO → UO → Bool
  | .lst x, .lst y => sameL (sameU 6) x y
  | .dt x, .dt y => sameK (x.map (·.1)) (y.map (·.1)) && sameL (sameU 6) (x.map (·.2)) (y.map (·.2))
  | _, _ => false
theorem sameO_eq {a b : UO} (h : sameO a b = true) : a = b := by
  unfold sameO at h
  split at h
  · rw [sameL_eq (sameU_eq 6) _ _ h]
  · rw [Bool.and_eq_true] at h
    rw [pairs_eq (sameK_eq _ _ h.1) (sameL_eq (sameU_eq 6) _ _ h.2)]
  · cases h
/-- h begins with g -/
def preH : List UO → List UO → Bool
  | [], _ => true
  | x :: r, y :: s => sameO x y && preH r s
  | _ :: _, [] => false
theorem preH_of : ∀ {g h : List UO}, preH g h = true → ∃ r, h = g ++ r
  | [], h, _ => ⟨h, rfl⟩
  | x :: r, y :: s, q => by
    unfold preH at q
    rw [Bool.and_eq_true] at q
    obtain ⟨t, e⟩ := preH_of q.2
    exact ⟨t, by rw [e, sameO_eq q.1]; rfl⟩
  | _ :: _, [], q => by cases q
def sameH (g h : List UO) : Bool := Nat.beq g.length h.length && preH g h
theorem sameH_eq {g h : List UO} (q : sameH g h = true) : g = h := by
  unfold sameH at q
  rw [Bool.and_eq_true] at q
  obtain ⟨r, e⟩ := preH_of q.2
  have l := Nat.eq_of_beq_eq_true q.1
  subst e
  rw [List.length_append] at l
  have : r = [] := List.eq_nil_of_length_eq_zero (by omega)
  subst this
  rw [List.append_nil]
/-- the same heap, the same slots -/
def sameN (us : Lo) (h : List UO) (r : Rt) : Bool := match r with
  | .nx a g => Nat.beq us.length a.length && sameAt (List.range us.length) us a && sameH h g
  | _ => false
theorem sameN_eq {us : Lo} {h : List UO} {r : Rt} (q : sameN us h r = true) : r = .nx us h := by
  unfold sameN at q
  split at q
  · rename_i a g
    rw [Bool.and_eq_true, Bool.and_eq_true] at q
    have l := Nat.eq_of_beq_eq_true q.1.1
    have : us = a := List.ext_getElem? fun j => by
      by_cases hj : j < us.length
      · exact sameAt_of q.1.2 j (List.mem_range.mpr hj)
      · rw [List.getElem?_eq_none (by omega), List.getElem?_eq_none (by omega)]
    rw [this, sameH_eq q.2]
  · cases q
/-! ### a table -/
def look (t : List (List Int × Int)) (ns : List Int) : Option Int := match t with
  | [] => none
  | p :: r => match decide (p.1 = ns) with | true => some p.2 | false => look r ns
def isI (r : Rg) (n : Int) : Bool := match r with | .ok (.int m) => decide (m = n) | _ => false
theorem isI_of {r : Rg} {n : Int} (h : isI r n = true) : r = .ok (.int n) := by
  unfold isI at h
  split at h
  · rw [of_decide_eq_true h]
  · cases h
theorem look_of : ∀ {t : List (List Int × Int)} {ns : List Int} {n : Int}, look t ns = some n → (ns, n) ∈ t
  | [], _, _, h => by cases h
  | p :: r, ns, n, h => by
    unfold look at h
    split at h
    · rename_i q
      cases h
      have := of_decide_eq_true q
      subst this
      exact List.mem_cons_self
    · exact List.mem_cons_of_mem _ (look_of h)
/-- f by a table of its answers at tuples of ints -/
def byT (t : List (List Int × Int)) (f : Fg) : Fg := fun args => match args with
  | [.tup us] => (match toInts us with
    | some ns => (match look t ns with | some n => .ok (.int n) | none => f args)
    | none => f args)
  | _ => f args
theorem toInts_map : ∀ {xs : List U} {ns : List Int}, toInts xs = some ns → xs = ns.map .int
  | [], _, h => by cases h; rfl
  | x :: r, ns, h => by
    cases x with
    | int i =>
      unfold toInts at h
      split at h
      · rename_i ys q
        cases h
        rw [List.map_cons, ← toInts_map (xs := r) (ns := ys) q]
      · cases h
    | _ => cases h
theorem byT_eq {t : List (List Int × Int)} {f : Fg} (h : ∀ p ∈ t, isI (f [.tup (p.1.map .int)]) p.2 = true) : byT t f = f := by
  funext args
  unfold byT
  split
  · rename_i us
    split
    · rename_i ns q
      split
      · rename_i n q2
        have := isI_of (h _ (look_of q2))
        rw [toInts_map q]
        exact this.symm
      · rfl
    · rfl
  · rfl
end Fn
/-! instances of own classes: their fields, their operators -/
namespace Fn
open PySem L2 PySem.Spec PyProof.Rows
/-- what the text says of an own class -/
structure OwnC (K : PySem.W.Frag) (C : Addr) : Prop where
  cl : Cls K C
  sf : PySem.W.selfFirst K C = true
/-- a def of the class by its name -/
structure Dun (K : PySem.W.Frag) (C : Addr) (nm : Str) (f : Addr) : Prop where
  at_ : PySem.W.findIn K (.ref C) nm = some (some (.ref f))
  fn : PySem.W.isFn K (.ref f) = true
section
variable {X : Cx} {pins : List (Addr × Obj)} {σ : L2.St} {H : Hp} {s : Shared}
theorem ins_at {a C dx : Addr} {fs : List (Str × V)} (I : Inv X pins σ H s) (e : H a = some (.ins C dx fs)) : ∃ od, PySem.W.InstAt s.heap a (PySem.W.instObj C dx) C (some od) := by
  obtain ⟨_, O, _⟩ := ins_get I.hok e
  obtain ⟨od, J, _⟩ := O.look
  exact ⟨od, J⟩
theorem cmp_back {Q : VK} {v : Value} {s' : Shared} (h : EP X pins σ Q v s') : PySem.W.CmpBack (EP X pins σ Q) v s' := by
  obtain ⟨x, H', I, r, q⟩ := id h
  cases v with
  | notImplemented =>
    cases x with
    | non => cases r
    | bl b => cases r
    | int i => obtain ⟨_, r⟩ := r; cases r
    | str i => obtain ⟨_, r⟩ := r; cases r
    | byt i => obtain ⟨_, r⟩ := r; cases r
    | flt i => obtain ⟨_, r⟩ := r; cases r
    | ref a => cases r
    | ty n => cases r
  | _ => exact h
theorem str_back {Q : VK} {v : Value} {s' : Shared} (h : EP X pins σ (fun v H => (∃ z, v = .str z) ∧ Q v H) v s') : PySem.W.StrBack (EP X pins σ Q) v s' := by
  obtain ⟨x, H', I, r, ⟨z, e⟩, q⟩ := h
  subst e
  obtain ⟨t, rfl⟩ := r
  exact ⟨.str z, H', I, ⟨t, rfl⟩, q⟩
theorem bool_back {Q : Bool → Hp → Prop} {v : Value} {s' : Shared} (h : EP X pins σ (fun v H => ∃ b, v = .bl b ∧ Q b H) v s') : PySem.W.BoolBack (TP X pins σ Q) v s' := by
  obtain ⟨x, H', I, r, b, e, q⟩ := h
  subst e
  cases r
  exact ⟨H', I, q⟩
variable {k : Nat} {f C : Addr} {fd : FuncData} {ps : List Str} {sp : Sp} {W : WX} {a dx : Addr} {fs : List (Str × V)} {Q : VK} {y : V} {u : Value}
/-- a op b, a an instance, b one of the same class -/
theorem own_bin {op : Operator} {b dy : Addr} {gs : List (Str × V)} (o : OwnC X.K C) (d : Dun X.K C (PySem.dunder op.info.2) f) (F : FnOk X.prog X.w X.K X.mg X.base (L2.CX X.prog X.w) k f fd ps sp) (hr : Room k X.A) (hb : Binds X.K fd ps []) (tk : Takes X W)
    (I : Inv X pins σ H s) (ea : H a = some (.ins C dx fs)) (eb : H b = some (.ins C dy gs)) (h : sp [.ref a, .ref b] H Q (WE W σ)) : wpAny (model X.prog X.w) X.A (binaryOp op (.ref a) (.ref b)) (EP X pins σ Q) X.xe s := by
  obtain ⟨_, J⟩ := ins_at I ea
  obtain ⟨_, J'⟩ := ins_at I eb
  obtain ⟨_, fr⟩ := I.fr
  refine PySem.W.binop_K fr I.mod.kin J J'.type o.sf d.at_ d.fn ?_
  exact thn (run_fnS (E := WE W) (vs := [.ref a, .ref b]) (us := [.ref a, .ref b]) F hr hb (passAt tk σ) I (.cons rfl (.cons rfl .nil)) h) fun v s' hv => cmp_back hv
/-- a == b, .. whatever b is, its type not below the class -/
theorem own_cmp {op : CmpOp} {tb : Value} (hu : X.A.units < cLine) (d : Dun X.K C (cmpInfo op).2.1 f) (hn : PySem.W.notFirst X.K C tb = true) (F : FnOk X.prog X.w X.K X.mg X.base (L2.CX X.prog X.w) k f fd ps sp) (hr : Room k X.A) (hb : Binds X.K fd ps []) (tk : Takes X W)
    (I : Inv X pins σ H s) (ea : H a = some (.ins C dx fs)) (ry : RelV y u) (ht : PySem.W.Looks (model X.prog X.w) s.heap (typeOf u) tb) (h : sp [.ref a, y] H Q (WE W σ)) : wpAny (model X.prog X.w) X.A (richCompare op (.ref a) u) (EP X pins σ Q) X.xe s := by
  obtain ⟨_, J⟩ := ins_at I ea
  obtain ⟨_, fr⟩ := I.fr
  refine PySem.W.cmp_K hu fr I.mod.kin J ht hn d.at_ d.fn ?_
  exact thn (run_fnS (E := WE W) (vs := [.ref a, y]) (us := [.ref a, u]) F hr hb (passAt tk σ) I (.cons rfl (.cons ry .nil)) h) fun v s' hv => cmp_back hv
/-- - a -/
theorem own_neg (d : Dun X.K C "__neg__" f) (F : FnOk X.prog X.w X.K X.mg X.base (L2.CX X.prog X.w) k f fd ps sp) (hr : Room k X.A) (hb : Binds X.K fd ps []) (tk : Takes X W)
    (I : Inv X pins σ H s) (ea : H a = some (.ins C dx fs)) (h : sp [.ref a] H Q (WE W σ)) : wpAny (model X.prog X.w) X.A (unaryOp .USub (.ref a)) (EP X pins σ Q) X.xe s := by
  obtain ⟨_, J⟩ := ins_at I ea
  obtain ⟨_, fr⟩ := I.fr
  exact PySem.W.ksp_neg fr I.mod.kin J d.at_ d.fn (run_fnS (E := WE W) (vs := [.ref a]) (us := [.ref a]) F hr hb (passAt tk σ) I (.cons rfl .nil) h)
/-- the truth of a -/
theorem own_truth {Q : Bool → Hp → Prop} (d : Dun X.K C "__bool__" f) (F : FnOk X.prog X.w X.K X.mg X.base (L2.CX X.prog X.w) k f fd ps sp) (hr : Room k X.A) (hb : Binds X.K fd ps []) (tk : Takes X W)
    (I : Inv X pins σ H s) (ea : H a = some (.ins C dx fs)) (h : sp [.ref a] H (fun v H => ∃ b, v = .bl b ∧ Q b H) (WE W σ)) : wpAny (model X.prog X.w) X.A (truthy (.ref a)) (TP X pins σ Q) X.xe s := by
  obtain ⟨_, J⟩ := ins_at I ea
  obtain ⟨_, fr⟩ := I.fr
  exact PySem.W.truthy_K fr I.mod.kin J d.at_ d.fn (thn (run_fnS (E := WE W) (vs := [.ref a]) (us := [.ref a]) F hr hb (passAt tk σ) I (.cons rfl .nil) h) fun v s' hv => bool_back hv)
/-- a def that is called two built-in calls deep -/
theorem room2 {A : Around} (hr : Room (k + 1) A) : Room k A.in1.in1 := by
  obtain ⟨h1, h2, h3⟩ := hr
  refine ⟨h1, ?_, ?_⟩
  · show A.depth + 3 * k + 5 < _
    omega
  · show A.units + 1 + 1 + 16 * k + 200 < _
    omega
theorem run_in2 {us : List Value} {vs : List V} (F : FnOk X.prog X.w X.K X.mg X.base (L2.CX X.prog X.w) k f fd ps sp) (hr : Room (k + 1) X.A) (hb : Binds X.K fd ps []) (tk : Takes X W) (I : Inv X pins σ H s) (r : Vals vs us)
    (h : sp vs H Q (WE W σ)) : wpAny (model X.prog X.w) X.A.in1.in1 (call (.ref f) us) (EP X pins σ Q) X.xe s := by
  have hl : (us ++ []).length = ps.length := by rw [List.append_nil, ← r.length]; exact F.len _ _ _ _ h
  have bd := hb s us I.kIn hl
  rw [List.append_nil] at bd
  have run := F.run X.A.in1.in1 X.stack s H ⟨us, []⟩ us vs Q (WE W σ) (room2 hr) I.env0.in1.in1 bd r h
  refine wpAny_call (codeAny_mono run fun res s' hq => ?_)
  match res, hq with
  | .error e, hq => exact passAt tk σ pins H s e s' I hq
  | .ok (.ret _), hq => exact I.after hq
  | .ok .next, hq => exact hq.elim
  | .ok .brk, hq => exact hq.elim
  | .ok .cont, hq => exact hq.elim
/-- str(a) -/
theorem own_str (d : Dun X.K C "__str__" f) (F : FnOk X.prog X.w X.K X.mg X.base (L2.CX X.prog X.w) k f fd ps sp) (hr : Room (k + 1) X.A) (hb : Binds X.K fd ps []) (tk : Takes X W)
    (I : Inv X pins σ H s) (ea : H a = some (.ins C dx fs)) (h : sp [.ref a] H (fun v H => (∃ z, v = .str z) ∧ Q v H) (WE W σ)) : wpAny (model X.prog X.w) X.A (call (.type "str") [.ref a]) (EP X pins σ Q) X.xe s := by
  obtain ⟨_, J⟩ := ins_at I ea
  have hu := hr.un
  exact PySem.W.kso_call (by show X.A.units + 1 + 1 < _; omega) I.kIn J d.at_ d.fn (thn (run_in2 (vs := [.ref a]) F hr hb tk I (.cons rfl .nil) h) fun v s' hv => str_back hv)
/-- C(..), what is raised wished for at our slots -/
theorem run_mk {us : List Value} {vs : List V} (M : Mk X.K C f) (F : FnOk X.prog X.w X.K X.mg X.base (L2.CX X.prog X.w) k f fd ps sp) (hr : Room (k + 1) X.A) (hb : Binds X.K fd ps []) (tk : Takes X W) (I : Inv X pins σ H s) (r : Vals vs us)
    (h : ∀ x dx, H x = none → H dx = none → dx ≠ x → sp (.ref x :: vs) (upd (upd H dx (.own x)) x (.ins C dx [])) (fun v H2 => v = .non ∧ Q (.ref x) H2) (WE W σ)) : wpAny (model X.prog X.w) X.A (call (.ref C) us) (EP X pins σ Q) X.xe s := by
  let n := s.heap.objs.size
  have q := h (n + 1) n (I.hok.fresh (Nat.le_succ n)) (I.hok.fresh (Nat.le_refl n)) (Nat.ne_of_lt (Nat.lt_succ_self n))
  have J := Inv.made (C := C) I
  have rv : Vals (.ref (n + 1) :: vs) (.ref (n + 1) :: us) := .cons rfl r
  have hl : ((Value.ref (n + 1) :: us) ++ []).length = ps.length := by rw [List.append_nil, ← rv.length]; exact F.len _ _ _ _ q
  have bd := hb _ (.ref (n + 1) :: us) J.kIn hl
  rw [List.append_nil] at bd
  have run := F.run _ X.stack _ _ ⟨.ref (n + 1) :: us, []⟩ (.ref (n + 1) :: us) _ _ (WE W σ) (hr.make C us []) (J.env0.make C us []) bd rv q
  refine wpAny_call (make_map (f := f) I.kIn M.makes M.init (beq_iff_eq.mp M.fn) (codeAny_mono run fun res s' hq => ?_))
  match res, hq with
  | .error e, hq => exact passAt tk σ pins _ _ e s' J hq
  | .ok (.ret u), hq =>
    obtain ⟨v, H', I3, ru, ev, q3⟩ := J.after hq
    subst ev
    exact ⟨ru, .ref (n + 1), H', I3, rfl, q3⟩
  | .ok .next, hq => exact hq.elim
  | .ok .brk, hq => exact hq.elim
  | .ok .cont, hq => exact hq.elim
theorem bool_new_in {prog : Program} {w : World} (x : Addr) : MeetsIn prog w (Builtin.«bool.__new__» ⟨[.type "bool", .ref x], []⟩)
    (fun A R s => wpAny (model prog w) A.in1 (truthy (.ref x)) (fun b s' => R (.ok (.ret (.bool b))) s') (fun e s' => R (.error e) s') s) :=
  .of_wp fun A R s h => by
    have f1 := PySem.F.conv_sub_bool
    repeat (any_goals (first | assumption | (with_reducible refine wpAny_mono h (fun b s' hv => ?_) fun _ _ z => z) | wp_step))
    all_goals first | exact ⟨_, rfl, hv⟩ | exact hv | skip
/-- bool(a) -/
theorem own_bool (d : Dun X.K C "__bool__" f) (F : FnOk X.prog X.w X.K X.mg X.base (L2.CX X.prog X.w) k f fd ps sp) (hr : Room (k + 1) X.A) (hb : Binds X.K fd ps []) (tk : Takes X W)
    (I : Inv X pins σ H s) (ea : H a = some (.ins C dx fs)) (h : sp [.ref a] H (fun v H => ∃ b, v = .bl b ∧ Q (.bl b) H) (WE W σ)) : wpAny (model X.prog X.w) X.A (call (.type "bool") [.ref a]) (EP X pins σ Q) X.xe s := by
  obtain ⟨_, J⟩ := ins_at I ea
  obtain ⟨_, fr⟩ := I.fr
  have tr : wpAny (model X.prog X.w) X.A.in1.in1 (truthy (.ref a)) (fun b s' => EP X pins σ Q (.bool b) s') X.xe s := by
    refine PySem.W.truthy_K fr I.mod.kin J d.at_ d.fn (thn (run_in2 (vs := [.ref a]) F hr hb tk I (.cons rfl .nil) h) fun v s' hv => ?_)
    obtain ⟨x, H', I', r, b, e, q⟩ := hv
    subst e
    cases r
    exact ⟨.bl b, H', I', rfl, q⟩
  refine PySem.callType_newIn PySem.F.called_bool PySem.F.newNe_bool (PySem.F.typeCall_bool_1 _) (PySem.F.newCall_bool_1 _) (fun obj => PySem.F.args_object_init_2 obj _) PySem.F.entry_bool_new (bool_new_in a) ?_
  exact wpAny_mono tr (fun b s' hv => ⟨PySem.typeIs_bool _ _, hv⟩) fun _ _ z => z
end
end Fn
/-! instances of own classes, by own evaluators -/
namespace Fn
open PySem L2 PySem.Spec PyProof.Rows
/-! ### fields -/
/-- an instance: its class, its fields -/
def insU (h : List UO) : U → Option (Nat × List U)
  | .ob c fs => some (c, fs)
  | .ref i => (match h[i]? with | some (.ins c fs) => some (c, fs) | _ => none)
  | _ => none
theorem insU_of {G : Cfg} {w : Wd} (m : Sm G w) {u : U} {v : V} {c : Nat} {fs : List U} (r : R G w u v) (h : insU w.h u = some (c, fs)) :
    ∃ a dx vs, v = .ref a ∧ w.H a = some (.ins (G.cl c) dx ((G.ly c).zip vs)) ∧ RL G w fs vs := by
  cases r with
  | ob h1 h2 hl l => cases h; exact ⟨_, _, _, rfl, h1, l⟩
  | @ref i a h1 =>
    have h : (match w.h[i]? with | some (.ins c fs) => some (c, fs) | _ => none) = some (c, fs) := h
    split at h
    · rename_i q
      cases h
      cases m.obj _ _ _ h1 q with
      | ins h2 hl l => exact ⟨_, _, _, rfl, h2, l⟩
    · cases h
  | _ => cases h
def kFld (c j : Nat) (x : U) (h : List UO) : Rs U := match insU h x with
  | some (d, fs) => (match Nat.beq d c with
    | true => (match fs[j]? with | some u => .ok u h | none => .no)
    | false => .no)
  | none => .no
theorem zip_lookup {f : Str} {v : V} : ∀ {ly : List Str} {vs : List V} {j : Nat}, ly.Nodup → ly[j]? = some f → vs[j]? = some v → (ly.zip vs).lookup f = some v
  | [], _, _, _, h, _ => by simp at h
  | _ :: _, [], _, _, _, h => by simp at h
  | x :: ly, y :: vs, 0, _, h1, h2 => by
    simp at h1 h2
    subst h1 h2
    rw [List.zip_cons_cons, List.lookup_cons, beq_self_eq_true]
  | x :: ly, y :: vs, j + 1, nd, h1, h2 => by
    have h1 : ly[j]? = some f := by simpa using h1
    have h2 : vs[j]? = some v := by simpa using h2
    have ne : f ≠ x := fun e => (List.nodup_cons.mp nd).1 (e ▸ List.mem_of_getElem? h1)
    rw [List.zip_cons_cons, List.lookup_cons, beq_eq_false_iff_ne.mpr ne]
    exact zip_lookup (List.nodup_cons.mp nd).2 h1 h2
section
variable {X : Cx} {G : Cfg} {W : WX} {o a b e : Expr} {fo fa fb fe : Ev} {c j k : Nat} {f : Str} {pos tpos : Pos}
theorem f_fld (hK : X.K = G.K) (T : OwnC X.K (G.cl c)) (n : NoAttr X.K (G.cl c) f) (nd : (G.ly c).Nodup) (hj : (G.ly c)[j]? = some f) (ho : PE X o (tE G fo W)) (hb : attributeBase o f X.env (eval o X.env) = eval o X.env := by rfl) :
    PE X (.Attribute o f pos) (tE G (e1 (kFld c j) fo) W) :=
  PE.imp (pe_fld ho hb) fun σ _ Q ⟨us, w, ew, m, sl, h⟩ => by
    subst ew
    refine ⟨us, w, rfl, m, sl, (Pt.bind (Rel := R G) h).imp ?_⟩
    rintro x H1 ⟨w1, u, rfl, e1, m1, r1, h1⟩
    unfold kFld at h1
    split at h1
    · rename_i d fs q
      split at h1
      · rename_i qc
        have qc := Nat.eq_of_beq_eq_true qc
        subst qc
        split at h1
        · rename_i u' qj
          obtain ⟨p, dx, vs, rfl, hp, l⟩ := insU_of m1 r1 q
          obtain ⟨v, hv, rv⟩ := l.get qj
          exact ⟨p, _, dx, _, v, rfl, hp, T.cl, n, zip_lookup nd hj hv, h1.val m1 rv⟩
        · exact h1.elim
      · exact h1.elim
    · exact h1.elim
/-- o.f = value, the fields in their order -/
def kPutF (c j : Nat) (o v : U) (h : List UO) : Rs Unit := match o with
  | .ref p => (match h[p]? with
    | some (.ins d fs) => (match Nat.beq d c && Nat.beq fs.length j with
      | true => .ok () (h.set p (.ins c (fs ++ [v])))
      | false => .no)
    | _ => .no)
  | _ => .no
def gFld (c j : Nat) (fo fv : Ev) : Sv := fun us h => (fv us h).then us fun v h1 => (fo us h1).then us fun o h2 => (kPutF c j o v h2).then us fun _ h3 => .nx us h3
theorem zip_put {f : Str} {y : V} : ∀ {ly : List Str} {vs : List V}, ly.Nodup → ly[vs.length]? = some f → putF f y (ly.zip vs) = ly.zip (vs ++ [y])
  | [], _, _, h => by simp at h
  | x :: ly, [], _, h => by
    simp at h
    subst h
    simp [putF]
  | x :: ly, v :: vs, nd, h => by
    have h : ly[vs.length]? = some f := by simpa using h
    have ne : ¬ x = f := fun e => (List.nodup_cons.mp nd).1 (e ▸ List.mem_of_getElem? h)
    rw [List.zip_cons_cons, List.cons_append, List.zip_cons_cons]
    show (if x = f then _ else _) = _
    rw [if_neg ne, zip_put (List.nodup_cons.mp nd).2 h]
theorem s_fld (T : OwnC X.K (G.cl c)) (n : NoAttr X.K (G.cl c) f) (nd : (G.ly c).Nodup) (hj : (G.ly c)[j]? = some f) (hs : (G.ly c).length ≤ 900) (ho : PE X o (tE G fo W)) (hv : PE X e (tE G fe W))
    (hsw : swapsWith e (some (.Attribute o f tpos)) pos.line X.env = pure false := by rfl) : PS X (.Assign [.Attribute o f tpos] e pos) (tS G (gFld c j fo fe) W) :=
  PS.imp (ps_fld ho hv hsw) fun D σ _ ⟨us, w, ew, m, sl, h⟩ => by
    subst ew
    refine ⟨us, w, rfl, m, sl, (PtS.then m sl h).imp ?_⟩
    rintro y H1 ⟨w1, uy, rfl, e1, m1, r1, sl1, h1⟩
    refine ⟨us, w1, rfl, m1, sl1, (PtS.then (Rel := R G) m1 sl1 h1).imp ?_⟩
    rintro x H2 ⟨w2, uo, rfl, e2, m2, r2, sl2, h2⟩
    have r1 := r1.up m1 e2
    unfold kPutF at h2
    split at h2
    · rename_i p
      split at h2
      · rename_i d fs q
        split at h2
        · rename_i qc
          rw [Bool.and_eq_true] at qc
          have qd := Nat.eq_of_beq_eq_true qc.1
          have ql := Nat.eq_of_beq_eq_true qc.2
          subst qd
          cases r2 with
          | @ref _ A hr =>
            cases m2.obj _ _ _ hr q with
            | @ins _ dx _ vs hA hl l =>
              have lv : vs.length = j := by rw [← l.length]; exact ql
              have ex : Ext w2 (w2.put p A (.ins d (fs ++ [uy])) (.ins (G.cl d) dx ((G.ly d).zip (vs ++ [y])))) := Ext.put m2 hr q
              have hlt : j < (G.ly d).length := (List.getElem?_eq_some_iff.mp hj).1
              refine ⟨A, G.cl d, dx, _, rfl, hA, T.cl, n, ?_, ?_⟩
              · rw [List.length_zip]; omega
              · rw [zip_put nd (by rw [lv]; exact hj)]
                refine h2 _ σ rfl ex (m2.put hr q (.ins upd_same ?_ ((l.append (.one r1)).up m2 ex))) (sl2.up m2 ex)
                rw [List.length_append, List.length_singleton]; omega
        · exact h2.elim
      · exact h2.elim
    · exact h2.elim
end
/-! ### a new instance -/
/-- the instance that __init__ has made, nobody's -/
def mkU (c k : Nat) (h : List UO) : Option U := match h[0]? with
  | some (UO.ins d fs) => (match Nat.beq d c && Nat.beq fs.length k with
    | true => (match mapO (frz 7 h) fs with | some ys => some (.ob c ys) | none => none)
    | false => none)
  | _ => none
/-- C(..): n arguments with self, k fields -/
def eMake (c n k : Nat) (F : Fh) (fa : EvA) : Ev := fun us h => (fa us h).bind fun as h1 => match Nat.beq (as.length + 1) n && as.all (pureU 10) with
  | true => (match F (.ref 0 :: as) [.ins c []] with
    | .ok .non h2 => (match mkU c k h2 with | some u => .ok u h1 | none => .no)
    | .ex ⟨x, []⟩ _ => .ex ⟨x, []⟩ h1
    | _ => .no)
  | false => .no
theorem mk_pt {G : Cfg} {W : WX} {σ : L2.St} {w : Wd} {Q : VK} {c n k : Nat} {F : Fh} {as : List U} {vs : List V} (m : Sm G w) (l : RL G w as vs) (hk : (G.ly c).length = k)
    (h : Pt G (R G) W σ w (match Nat.beq (as.length + 1) n && as.all (pureU 10) with
      | true => (match F (.ref 0 :: as) [.ins c []] with
        | .ok .non h2 => (match mkU c k h2 with | some u => .ok u w.h | none => .no)
        | .ex ⟨x, []⟩ _ => .ex ⟨x, []⟩ w.h
        | _ => .no)
      | false => .no) Q) (x dx : Addr) (hx : w.H x = none) (hd : w.H dx = none) (ne : dx ≠ x) :
    fnH G n F (.ref x :: vs) (upd (upd w.H dx (.own x)) x (.ins (G.cl c) dx [])) (fun v H2 => v = .non ∧ Q (.ref x) H2) (WE W σ) := by
  split at h
  case h_2 => exact h.elim
  rename_i hp0
  rw [Bool.and_eq_true] at hp0
  have hn : (V.ref x :: vs).length = n := by rw [List.length_cons, ← l.length]; exact Nat.eq_of_beq_eq_true hp0.1
  -- the heap with the new instance
  have hx1 : (w.new dx (.own x)).H x = none := by
    show upd w.H dx (.own x) x = none
    rw [upd_ne (Ne.symm ne)]; exact hx
  let w2 : Wd := (w.new dx (.own x)).newZ x (.ins (G.cl c) dx [])
  have E2 : Ext w w2 := (Ext.new hd).trans (Ext.newZ hx1)
  have m2 : Sm G w2 := (m.new hd).newZ hx1
  let wm : Wd := ⟨w2.Z, [x], [.ins c []], w2.H⟩
  have hwx : w2.H x = some (.ins (G.cl c) dx []) := upd_same
  have mm : Sm G wm := ⟨rfl, by simp [wm], fun a ha => .inr (List.mem_singleton.mp ha), m2.dom, fun i a o h1 h2 => by
    match i with
    | 0 =>
      cases h1
      cases h2
      exact .ins (vs := []) (by show w2.H x = _; rw [hwx, List.zip_nil_right]) (Nat.zero_le _) .nil
    | i + 1 => simp [wm] at h1⟩
  have zx : ¬ w.Z x := fun z => m.dom x z hx
  have la : RL G wm as vs := pure_all (w := w2) (w' := wm) (fun u v r e => pure_of (w := w2) (w' := wm) rfl (fun _ z => z) 10 u v r e) (l.up m E2) hp0.2
  have nx : ∀ a o, w.H a = some o → a ≠ x ∧ w2.H a = some o := fun a o q => by
    have h1 : a ≠ x := ne_of_none q hx
    have h2 : a ≠ dx := ne_of_none q hd
    refine ⟨h1, ?_⟩
    show upd (upd w.H dx _) x _ a = _
    rw [upd_ne h1, upd_ne h2]
    exact q
  have back : ∀ w' : Wd, Ext wm w' → Ext w ⟨w.Z, w.r, w.h, w'.H⟩ ∧ Sm G ⟨w.Z, w.r, w.h, w'.H⟩ := fun w' e => by
    have kp : ∀ a o, w.H a = some o → w'.H a = some o := fun a o q => e.keep a o (nx a o q).2 (.inl fun hm => (nx a o q).1 (List.mem_singleton.mp hm))
    have dm : ∀ a, w'.H a = none → w.H a = none := fun a q => by
      cases z : w.H a with
      | none => rfl
      | some o => rw [kp a o z] at q; cases q
    have ex : Ext w ⟨w.Z, w.r, w.h, w'.H⟩ := ⟨⟨[], by simp, by simp⟩, fun a h => .inl h, fun a h => h, fun a o q _ => kp a o q, dm⟩
    exact ⟨ex, m.len, m.nd, m.z, fun a z q => m.dom a z (dm a q), fun i a o h1 h2 => (m.obj i a o h1 h2).up m ex fun b q => kp a b q⟩
  refine ⟨hn, .ref 0 :: as, wm, rfl, mm, .cons (.ref rfl) la, ?_⟩
  show Pt G (R G) _ [] wm (F (.ref 0 :: as) [.ins c []]) _
  split at h
  · rename_i h2 hF
    rw [hF]
    split at h
    · rename_i u hu
      intro w' v eh e m' r
      cases r
      refine ⟨rfl, ?_⟩
      obtain ⟨x1, x2⟩ := back w' e
      unfold mkU at hu
      split at hu
      · rename_i d fs q0
        split at hu
        · rename_i qc
          rw [Bool.and_eq_true] at qc
          have qd := Nat.eq_of_beq_eq_true qc.1
          have ql := Nat.eq_of_beq_eq_true qc.2
          subst qd
          split at hu
          · rename_i ys qm
            cases hu
            rw [← eh] at q0 qm
            have hr : w'.r[0]? = some x := e.get (w := wm) rfl
            cases m'.obj 0 x _ hr q0 with
            | @ins _ dx' _ vs' hA hl lf =>
              obtain ⟨nw, en, fn⟩ := e.nw
              have lz : RL G ⟨w.Z, w.r, w.h, w'.H⟩ ys vs' := frz_all (w := w') (w' := ⟨w.Z, w.r, w.h, w'.H⟩) (fun u u' v r q => frz_of (w := w') (w' := ⟨w.Z, w.r, w.h, w'.H⟩) rfl m' (fun a z => e.zs a (.inl z)) (fun a ha z => by
                rw [en] at ha
                rcases List.mem_append.mp ha with ha | ha
                · exact zx (List.mem_singleton.mp ha ▸ z)
                · cases qa : w.H a with
                  | none => exact m.dom a z qa
                  | some o =>
                    have := fn a ha
                    rw [show wm.H a = some o from (nx a o qa).2] at this
                    cases this) 7 u u' v r q) lf qm
              refine h ⟨w.Z, w.r, w.h, w'.H⟩ (.ref x) rfl x1 x2 (.ob hA zx ?_ lz)
              rw [← lf.length, ql, hk]
          · cases hu
        · cases hu
      · cases hu
    · exact h.elim
  · rename_i xc h2 hF
    rw [hF]
    intro w' cls d eh e m' r
    obtain ⟨x1, x2⟩ := back w' e
    exact h ⟨w.Z, w.r, w.h, w'.H⟩ cls d rfl x1 x2 r
  · exact h.elim
/-! ### calls -/
/-- f at values, the arguments nobody's -/
def kG (n : Nat) (f : Fg) (as : List U) (h : List UO) : Rs U := match as.length == n && as.all (pureU 10) with
  | true => (match f as with | .ok u => .ok u h | .ex e => .ex e h | .no => .no)
  | false => .no
def isOb (c : Nat) : U → Bool | .ob d _ => Nat.beq d c | _ => false
theorem ob_of {G : Cfg} {w : Wd} {c : Nat} {u : U} {v : V} (r : R G w u v) (h : isOb c u = true) : ∃ a dx fs, v = .ref a ∧ w.H a = some (.ins (G.cl c) dx fs) := by
  cases r with
  | ob h1 h2 hl l =>
    have e := Nat.eq_of_beq_eq_true h
    subst e
    exact ⟨_, _, _, rfl, h1⟩
  | _ => cases h
def eOpO (c : Nat) (f : Fg) (fa fb : Ev) : Ev := fun us h => (fa us h).bind fun x h1 => (fb us h1).bind fun y h2 => match isOb c x && isOb c y with
  | true => kG 2 f [x, y] h2
  | false => .no
def eUnO (c : Nat) (f : Fg) (fa : Ev) : Ev := fun us h => (fa us h).bind fun x h1 => match isOb c x with
  | true => kG 1 f [x] h1
  | false => .no
/-- bool(a), not a .. by the own __bool__ -/
def bUnO (c : Nat) (f : Fg) (fa : Ev) : EvB := fun us h => (fa us h).bind fun x h1 => match isOb c x with
  | true => (match kG 1 f [x] h1 with | .ok (.bl b) h2 => .ok b h2 | .ex e h2 => .ex e h2 | _ => .no)
  | false => .no
/-- o.m(..): n arguments with self -/
def eMethO (c n : Nat) (f : Fg) (fo : Ev) (fa : EvA) : Ev := fun us h => (fo us h).bind fun x h1 => match isOb c x with
  | true => (fa us h1).bind fun as h2 => kG n f (x :: as) h2
  | false => .no
section
variable {X : Cx} {G : Cfg} {W : WX} {o a b e : Expr} {es : List Expr} {fo fa fb : Ev} {fA : EvA} {c k kk n : Nat} {F : Fg} {fH : Fh} {x m : Str} {pos p apos : Pos} {A : Addr} {fd : FuncData} {ps : List Str}
theorem kG_pt {w : Wd} {σ : L2.St} {Q : VK} {as : List U} {vs : List V} (mw : Sm G w) (l : RL G w as vs) (h : Pt G (R G) W σ w (kG n F as w.h) Q) : fnG G n F vs w.H Q (WE W σ) := callG_pt mw l h
def eMakeL (i c n k : Nat) (fH : Fh) (fA : EvA) : Ev := fun us h => match us[i]? with
  | some (some (.cls d)) => (match Nat.beq d c with | true => eMake c n k fH fA us h | false => .no)
  | _ => .no
theorem f_make (M : Mk X.K (G.cl c) A) (Fk : FnOk X.prog X.w X.K X.mg X.base (L2.CX X.prog X.w) kk A fd ps (fnH G n fH)) (hr : Room (kk + 1) X.A) (hg : Gl X x) (hm : X.mg x = some (.ref (G.cl c))) (hb : Binds X.K fd ps []) (tk : Takes X W) (hk : (G.ly c).length = k)
    (ha : PA X (e :: es) (tA G fA W)) (hdb : (x == ("__debug__" : Str)) = false := by decide) (he : starEach (e :: es) X.env = (false, eval e X.env) :: starEach es X.env := by rfl) (hpl : (backTo pos (starEach es X.env)).any (·.1) = false := by rfl) :
    PE X (.Call (.Name x p) (e :: es) [] pos) (tE G (eMake c n k fH fA) W) := by
  refine ⟨fun pins s σ H Q I ⟨us, w, eH, mw, sl, h⟩ => ?_⟩
  subst eH
  have go : tA G fA W σ w.H fun vs H1 => ∀ y dx, H1 y = none → H1 dx = none → dx ≠ y → fnH G n fH (.ref y :: vs) (upd (upd H1 dx (.own y)) y (.ins (G.cl c) dx [])) (fun v H2 => v = .non ∧ Q (.ref y) H2) (WE W σ) := by
    refine ⟨us, w, rfl, mw, sl, (Pt.bind (Rel := RL G) h).imp ?_⟩
    rintro vs H1 ⟨w1, as, rfl, e1, m1, r1, h1⟩
    exact mk_pt m1 r1 hk h1
  refine wpAny_Call_Name_kw (ld_glob I hg hm ?_ hdb)
  refine PySem.W.callWith_K (h₀ := X.base) I.mod.kin M.kp ?_ he hpl
  exact thn (ha.run pos pins s σ w.H _ I go) fun us s1 ⟨vs, H1, I1, r, q⟩ => ⟨I1.kIn, run_mk M Fk hr hb tk I1 r q⟩
/-- C(..) of a class that a local name holds -/
theorem f_makeL {i : Nat} (M : Mk X.K (G.cl c) A) (Fk : FnOk X.prog X.w X.K X.mg X.base (L2.CX X.prog X.w) kk A fd ps (fnH G n fH)) (hr : Room (kk + 1) X.A) (hN : X.N[i]? = some x) (hv : Vis X.env.scope x) (hb : Binds X.K fd ps []) (tk : Takes X W) (hk : (G.ly c).length = k)
    (ha : PA X (e :: es) (tA G fA W)) (hd : (x == ("__debug__" : Str)) = false := by decide) (hcd : (x == ("__classdict__" : Str)) = false := by decide) (he : starEach (e :: es) X.env = (false, eval e X.env) :: starEach es X.env := by rfl) (hpl : (backTo pos (starEach es X.env)).any (·.1) = false := by rfl) :
    PE X (.Call (.Name x p) (e :: es) [] pos) (tE G (eMakeL i c n k fH fA) W) := by
  refine ⟨fun pins s σ H Q I ⟨us, w, eH, mw, sl, h⟩ => ?_⟩
  subst eH
  unfold eMakeL at h
  split at h
  · rename_i d qd
    split at h
    · rename_i qc
      have qc := Nat.eq_of_beq_eq_true qc
      subst qc
      obtain ⟨v, ev, rv⟩ := sl.2 i _ qd
      cases rv
      have go : tA G fA W σ w.H fun vs H1 => ∀ y dx, H1 y = none → H1 dx = none → dx ≠ y → fnH G n fH (.ref y :: vs) (upd (upd H1 dx (.own y)) y (.ins (G.cl d) dx [])) (fun v H2 => v = .non ∧ Q (.ref y) H2) (WE W σ) := by
        refine ⟨us, w, rfl, mw, sl, (Pt.bind (Rel := RL G) h).imp ?_⟩
        rintro vs H1 ⟨w1, as, rfl, e1, m1, r1, h1⟩
        exact mk_pt m1 r1 hk h1
      have load := (pe_var (pos := p) hN hv hd hcd).run pins s σ w.H (fun v H1 => v = .ref (G.cl d) ∧ H1 = w.H) I ⟨_, ev, rfl, rfl⟩
      refine wpAny_Call_Name_kw (thn load fun u s1 ⟨y, H1, I1, ry, z⟩ => ?_)
      obtain ⟨e1, e2⟩ := z
      subst e1
      subst e2
      cases ry
      refine PySem.W.callWith_K (h₀ := X.base) I.mod.kin M.kp ?_ he hpl
      exact thn (ha.run pos pins s1 σ w.H _ I1 go) fun us s1 ⟨vs, H1, I1, r, q⟩ => ⟨I1.kIn, run_mk M Fk hr hb tk I1 r q⟩
    · exact h.elim
  · exact h.elim
theorem f_opO {op : Operator} (o : OwnC X.K (G.cl c)) (d : Dun X.K (G.cl c) (PySem.dunder op.info.2) A) (Fk : FnOk X.prog X.w X.K X.mg X.base (L2.CX X.prog X.w) kk A fd ps (fnG G 2 F)) (hr : Room kk X.A) (hb : Binds X.K fd ps []) (tk : Takes X W)
    (ha : PE X a (tE G fa W)) (hb' : PE X b (tE G fb W)) : PE X (.BinOp a op b pos) (tE G (eOpO c F fa fb) W) := by
  refine ⟨fun pins s σ H Q I ⟨us, w, eH, mw, sl, h⟩ => ?_⟩
  subst eH
  have go : tE G fa W σ w.H fun x H1 => tE G fb W σ H1 fun y H2 => ∃ p q dx fs dy gs, x = .ref p ∧ y = .ref q ∧ H2 p = some (.ins (G.cl c) dx fs) ∧ H2 q = some (.ins (G.cl c) dy gs) ∧ fnG G 2 F [x, y] H2 Q (WE W σ) := by
    refine ⟨us, w, rfl, mw, sl, (Pt.bind (Rel := R G) h).imp ?_⟩
    rintro x H1 ⟨w1, u, rfl, e1, m1, r1, h1⟩
    refine ⟨us, w1, rfl, m1, sl.up mw e1, (Pt.bind (Rel := R G) h1).imp ?_⟩
    rintro y H2 ⟨w2, v, rfl, e2, m2, r2, h2⟩
    have r1 := r1.up m1 e2
    split at h2
    · rename_i q
      rw [Bool.and_eq_true] at q
      obtain ⟨p, dx, fs, rfl, hp⟩ := ob_of r1 q.1
      obtain ⟨p', dy, gs, rfl, hp'⟩ := ob_of r2 q.2
      exact ⟨p, p', dx, fs, dy, gs, rfl, rfl, hp, hp', kG_pt m2 (.cons r1 (.cons r2 .nil)) h2⟩
    · exact h2.elim
  refine wpAny_BinOp (binT ha hb' I go fun v u s2 x y H2 I2 rx ry q => ?_)
  obtain ⟨p, q, dx, fs, dy, gs, rfl, rfl, ex, ey, z⟩ := q
  cases rx
  cases ry
  exact own_bin o d Fk hr hb tk I2 ex ey z
theorem f_eqO (hn : PySem.W.notFirst X.K (G.cl c) (.ref (G.cl c)) = true) (d : Dun X.K (G.cl c) "__eq__" A) (Fk : FnOk X.prog X.w X.K X.mg X.base (L2.CX X.prog X.w) kk A fd ps (fnG G 2 F)) (hr : Room kk X.A) (hb : Binds X.K fd ps []) (tk : Takes X W)
    (ha : PE X a (tE G fa W)) (hb' : PE X b (tE G fb W)) : PE X (.Compare a [.Eq] [b] pos) (tE G (eOpO c F fa fb) W) := by
  refine ⟨fun pins s σ H Q I ⟨us, w, eH, mw, sl, h⟩ => ?_⟩
  subst eH
  have go : tE G fa W σ w.H fun x H1 => tE G fb W σ H1 fun y H2 => ∃ p q dx fs dy gs, x = .ref p ∧ y = .ref q ∧ H2 p = some (.ins (G.cl c) dx fs) ∧ H2 q = some (.ins (G.cl c) dy gs) ∧ fnG G 2 F [x, y] H2 Q (WE W σ) := by
    refine ⟨us, w, rfl, mw, sl, (Pt.bind (Rel := R G) h).imp ?_⟩
    rintro x H1 ⟨w1, u, rfl, e1, m1, r1, h1⟩
    refine ⟨us, w1, rfl, m1, sl.up mw e1, (Pt.bind (Rel := R G) h1).imp ?_⟩
    rintro y H2 ⟨w2, v, rfl, e2, m2, r2, h2⟩
    have r1 := r1.up m1 e2
    split at h2
    · rename_i q
      rw [Bool.and_eq_true] at q
      obtain ⟨p, dx, fs, rfl, hp⟩ := ob_of r1 q.1
      obtain ⟨p', dy, gs, rfl, hp'⟩ := ob_of r2 q.2
      exact ⟨p, p', dx, fs, dy, gs, rfl, rfl, hp, hp', kG_pt m2 (.cons r1 (.cons r2 .nil)) h2⟩
    · exact h2.elim
  refine wpAny_Compare1 (binT ha hb' I go fun v u s2 x y H2 I2 rx ry q => ?_) (nomark _)
  obtain ⟨p, q, dx, fs, dy, gs, rfl, rfl, ex, ey, z⟩ := q
  cases rx
  cases ry
  obtain ⟨_, J'⟩ := ins_at I2 ey
  exact PySem.W.cmp_ofEq (own_cmp (op := .Eq) hr.units0 d hn Fk hr hb tk I2 ex (y := .ref q) rfl J'.type z)
theorem f_negO (d : Dun X.K (G.cl c) "__neg__" A) (Fk : FnOk X.prog X.w X.K X.mg X.base (L2.CX X.prog X.w) kk A fd ps (fnG G 1 F)) (hr : Room kk X.A) (hb : Binds X.K fd ps []) (tk : Takes X W)
    (ha : PE X a (tE G fa W)) : PE X (.UnaryOp .USub a pos) (tE G (eUnO c F fa) W) := by
  refine ⟨fun pins s σ H Q I ⟨us, w, eH, mw, sl, h⟩ => ?_⟩
  subst eH
  have go : tE G fa W σ w.H fun x H1 => ∃ p dx fs, x = .ref p ∧ H1 p = some (.ins (G.cl c) dx fs) ∧ fnG G 1 F [x] H1 Q (WE W σ) := by
    refine ⟨us, w, rfl, mw, sl, (Pt.bind (Rel := R G) h).imp ?_⟩
    rintro x H1 ⟨w1, u, rfl, e1, m1, r1, h1⟩
    split at h1
    · rename_i q
      obtain ⟨p, dx, fs, rfl, hp⟩ := ob_of r1 q
      exact ⟨p, dx, fs, rfl, hp, kG_pt m1 (.cons r1 .nil) h1⟩
    · exact h1.elim
  refine UnaryOp_ (thn (ha.run pins s σ w.H _ I go) fun v s1 ⟨x, H1, I1, r1, q1⟩ => ?_)
  obtain ⟨p, dx, fs, rfl, ex, z⟩ := q1
  cases r1
  exact own_neg d Fk hr hb tk I1 ex z
/-- bool(a) -/
def eBoolO (c : Nat) (f : Fg) (fa : EvA) : Ev := fun us h => (fa us h).bind fun as h1 => match as with
  | [x] => (match isOb c x with
    | true => (match kG 1 f [x] h1 with | .ok (.bl b) h2 => .ok (.bl b) h2 | .ex e h2 => .ex e h2 | _ => .no)
    | false => .no)
  | _ => .no
theorem ob1 {w : Wd} {as : List U} {vs : List V} {u : U} (l : RL G w [u] vs) : ∃ v, vs = [v] ∧ R G w u v := by
  cases l with
  | cons r t => cases t; exact ⟨_, rfl, r⟩
theorem f_boolO (d : Dun X.K (G.cl c) "__bool__" A) (Fk : FnOk X.prog X.w X.K X.mg X.base (L2.CX X.prog X.w) kk A fd ps (fnG G 1 F)) (hr : Room (kk + 1) X.A) (hb : Binds X.K fd ps []) (tk : Takes X W) (hg : Gl X "bool") (hm : X.mg "bool" = none)
    (ha : PA X [e] (tA G fA W)) (he : starEach [e] X.env = (false, eval e X.env) :: starEach [] X.env := by rfl) : PE X (.Call (.Name "bool" p) [e] [] pos) (tE G (eBoolO c F fA) W) := by
  refine ⟨fun pins s σ H Q I ⟨us, w, eH, mw, sl, h⟩ => ?_⟩
  subst eH
  have go : tA G fA W σ w.H fun vs H1 => ∃ q dx fs, vs = [.ref q] ∧ H1 q = some (.ins (G.cl c) dx fs) ∧ fnG G 1 F vs H1 (fun v H => ∃ b, v = .bl b ∧ Q (.bl b) H) (WE W σ) := by
    refine ⟨us, w, rfl, mw, sl, (Pt.bind (Rel := RL G) h).imp ?_⟩
    rintro vs H1 ⟨w1, as, rfl, e1, m1, r1, h1⟩
    split at h1
    · rename_i u
      obtain ⟨v, rfl, rv⟩ := ob1 (as := []) r1
      split at h1
      · rename_i q
        obtain ⟨q, dx, fs, rfl, hp⟩ := ob_of rv q
        refine ⟨q, dx, fs, rfl, hp, kG_pt (σ := σ) (W := W) m1 (.cons rv .nil) ?_⟩
        cases qf : kG 1 F [u] w1.h with
        | ok x h2 =>
          rw [qf] at h1
          cases x with
          | bl b =>
            intro w' v e1 e2 m3 r3
            cases r3
            exact ⟨b, rfl, h1 w' _ e1 e2 m3 (.bl b)⟩
          | _ => exact h1.elim
        | ex x h2 => rw [qf] at h1; exact h1
        | no => rw [qf] at h1; exact h1
      · exact h1.elim
    · exact h1.elim
  refine Call_ (ld_blt I hg hm (by decide +kernel : bootBuiltins "bool" = some (.type "bool")) ?_)
  refine PyProof.Rows.callWith_type1 (thn (ha.run pos pins s σ w.H _ I go) fun us s1 ⟨vs, H1, I1, r, q⟩ => ?_) he
  obtain ⟨q, dx, fs, rfl, ex, z⟩ := q
  obtain ⟨u, rfl, ru⟩ := r.one
  cases ru
  exact own_bool d Fk hr hb tk I1 ex z
/-- str(a) -/
def eStrO (c : Nat) (f : Fg) (fa : EvA) : Ev := fun us h => (fa us h).bind fun as h1 => match as with
  | [x] => (match isOb c x with
    | true => (match kG 1 f [x] h1 with | .ok (.str b) h2 => .ok (.str b) h2 | .ex e h2 => .ex e h2 | _ => .no)
    | false => .no)
  | _ => .no
theorem f_strO (d : Dun X.K (G.cl c) "__str__" A) (Fk : FnOk X.prog X.w X.K X.mg X.base (L2.CX X.prog X.w) kk A fd ps (fnG G 1 F)) (hr : Room (kk + 1) X.A) (hb : Binds X.K fd ps []) (tk : Takes X W) (hg : Gl X "str") (hm : X.mg "str" = none)
    (ha : PA X [e] (tA G fA W)) (he : starEach [e] X.env = (false, eval e X.env) :: starEach [] X.env := by rfl) : PE X (.Call (.Name "str" p) [e] [] pos) (tE G (eStrO c F fA) W) := by
  refine ⟨fun pins s σ H Q I ⟨us, w, eH, mw, sl, h⟩ => ?_⟩
  subst eH
  have go : tA G fA W σ w.H fun vs H1 => ∃ q dx fs, vs = [.ref q] ∧ H1 q = some (.ins (G.cl c) dx fs) ∧ fnG G 1 F vs H1 (fun v H => (∃ z, v = .str z) ∧ Q v H) (WE W σ) := by
    refine ⟨us, w, rfl, mw, sl, (Pt.bind (Rel := RL G) h).imp ?_⟩
    rintro vs H1 ⟨w1, as, rfl, e1, m1, r1, h1⟩
    split at h1
    · rename_i u
      obtain ⟨v, rfl, rv⟩ := ob1 (as := []) r1
      split at h1
      · rename_i q
        obtain ⟨q, dx, fs, rfl, hp⟩ := ob_of rv q
        refine ⟨q, dx, fs, rfl, hp, kG_pt (σ := σ) (W := W) m1 (.cons rv .nil) ?_⟩
        cases qf : kG 1 F [u] w1.h with
        | ok x h2 =>
          rw [qf] at h1
          cases x with
          | str b =>
            intro w' v e1 e2 m3 r3
            cases r3
            exact ⟨⟨b, rfl⟩, h1 w' _ e1 e2 m3 (.str b)⟩
          | _ => exact h1.elim
        | ex x h2 => rw [qf] at h1; exact h1
        | no => rw [qf] at h1; exact h1
      · exact h1.elim
    · exact h1.elim
  refine Call_ (ld_blt I hg hm (by decide +kernel : bootBuiltins "str" = some (.type "str")) ?_)
  refine PyProof.Rows.callWith_type1 (thn (ha.run pos pins s σ w.H _ I go) fun us s1 ⟨vs, H1, I1, r, q⟩ => ?_) he
  obtain ⟨q, dx, fs, rfl, ex, z⟩ := q
  obtain ⟨u, rfl, ru⟩ := r.one
  cases ru
  exact own_str d Fk hr hb tk I1 ex z
end
end Fn
/-! wide numbers, texts, gcd, class values, isinstance of own classes -/
namespace Fn
open PySem L2 PySem.Spec PyProof.Rows
/-! ### wide numbers -/
def cMulW (i j : Int) : Bool := Nat.blt (Nat.log2 i.natAbs + Nat.log2 j.natAbs) 100000000
theorem bits_log (x : Int) : Builtin.Int.intBits x ≤ x.natAbs.log2 + 1 := by
  unfold Builtin.Int.intBits
  split <;> omega
theorem cMulW_ok (i j : Int) (h : cMulW i j = true) : CMulX i j := by
  have h : i.natAbs.log2 + j.natAbs.log2 < 100000000 := Nat.le_of_ble_eq_true h
  have := bits_log i
  have := bits_log j
  unfold CMulX
  omega
def cDivA (_ j : Int) : Bool := !(j == 0) && Nat.blt (Nat.log2 j.natAbs) 9000
def CDivA (_ j : Int) : Prop := j ≠ 0 ∧ j.natAbs.log2 < 9000
theorem cDivA_ok (i j : Int) (h : cDivA i j = true) : CDivA i j := by
  unfold cDivA at h
  rw [Bool.and_eq_true] at h
  exact ⟨by simpa using h.1, Nat.le_of_ble_eq_true h.2⟩
theorem op_fdivA {X : Cx} : OpR X (binaryOp .FloorDiv) (rI CDivA fun i j => .int (i.fdiv j)) := opI fun i j _ _ _ _ _ hc q => floordiv_int hc.1 q (.inl (PyProof.noPylong_of_log2 hc.2))
/-- a text, n times -/
def cMulS (z : Str) (n : Int) : Bool := Nat.ble n.natAbs 1000 && Nat.ble z.length 1000
theorem cMulS_ok {z : Str} {n : Int} (h : cMulS z n = true) : MulOk z n := by
  unfold cMulS at h
  rw [Bool.and_eq_true] at h
  obtain ⟨h1, h2⟩ := h
  have h1 : n.natAbs ≤ 1000 := Nat.le_of_ble_eq_true h1
  have h2 : z.length ≤ 1000 := Nat.le_of_ble_eq_true h2
  refine ⟨?_, fun hn h3 => ?_, fun hn h3 => ?_⟩
  · rw [decide_eq_false (by omega), decide_eq_false (by omega)]; rfl
  · have h3 : ((2 : Int) ^ 63 - 1) / n ≥ 1000 := by
      refine Int.le_ediv_of_mul_le (by omega) ?_
      have : (2 : Int) ^ 63 = 9223372036854775808 := by decide
      omega
    omega
  · have h3 : z.length * n.toNat ≤ 1000000 := Nat.mul_le_mul h2 (show n.toNat ≤ 1000 by omega)
    have e2 : sizeLine = 16777216 := sizeLine_eq
    first
      | exact decide_eq_false (by omega)
      | (unfold Builtin.Str.tooLong; exact decide_eq_false (by omega))
      | (unfold Builtin.tooLong; exact decide_eq_false (by omega))
      | (unfold tooLong; exact decide_eq_false (by omega))
def kMulW (x y : U) (h : List UO) : Rs U := match x, y with
  | .int i, .int j => (match cMulW i j with | true => .ok (.int (i * j)) h | false => .no)
  | .str z, .int n => (match cMulS z n with | true => .ok (.str (Txt.mul z n)) h | false => .no)
  | _, _ => .no
def rMulW : R2 := fun x y H Q => (rI CMulX fun i j => .int (i * j)) x y H Q ∨ ∃ z n, x = .str z ∧ y = .int n ∧ MulOk z n ∧ Q (.str (Txt.mul z n)) H
theorem op_mulS {X : Cx} : OpR X (binaryOp .Mult) (fun x y H Q => ∃ z n, x = .str z ∧ y = .int n ∧ MulOk z n ∧ Q (.str (Txt.mul z n)) H) := by
  intro pins s σ H x y v u Q I rx ry h
  obtain ⟨z, n, rfl, rfl, ok, q⟩ := h
  obtain ⟨t, rfl⟩ := rx
  obtain ⟨t', rfl⟩ := ry
  exact SB.mul ok fun t' k => ⟨.str _, H, I.tok _, ⟨_, rfl⟩, q⟩
theorem or_mulW {X : Cx} : OpR X (binaryOp .Mult) rMulW := op_mulX.or op_mulS
theorem ok_mulW {G : Cfg} : Op2 G rMulW kMulW := by
  intro w σ W x y a b Q m rx ry h
  unfold kMulW at h
  split at h
  · rename_i i j
    cases rx; cases ry
    split at h
    · rename_i q
      exact .inl ⟨i, j, rfl, rfl, cMulW_ok i j q, h.int m⟩
    · exact h.elim
  · rename_i z n
    cases rx; cases ry
    split at h
    · rename_i q
      exact .inr ⟨z, n, rfl, rfl, cMulS_ok q, h.str m⟩
    · exact h.elim
  · exact h.elim
/-! ### texts -/
def kSlS (x : U) (lo hi : Option Int) (h : List UO) : Rs U := match x with
  | .str z => (match szOk z.length with | true => .ok (.str (cutS z lo hi)) h | false => .no)
  | _ => .no
def eSlS (f : Ev) (lo hi : EvO) : Ev := fun us h => (f us h).bind fun x h1 => (lo us h1).bind fun a h2 => (hi us h2).bind fun b h3 => kSlS x a b h3
def kInS (neg : Bool) (x y : U) (h : List UO) : Rs U := match x, y with
  | .str ⟨⟨[c]⟩⟩, .str z => .ok (.bl (match neg with | true => !(z.cps.toList.elem c) | false => z.cps.toList.elem c)) h
  | _, _ => .no
theorem ok_inS {G : Cfg} : Op2 G (fun x y H Q => ∃ (c : Nat) (z : Str), x = .str ⟨#[c]⟩ ∧ y = .str z ∧ Q (.bl (decide (c ∈ z.cps.toList))) H) (kInS false) := by
  intro w σ W x y a b Q m rx ry h
  unfold kInS at h
  split at h
  · rename_i c z
    cases rx; cases ry
    have e : z.cps.toList.elem c = decide (c ∈ z.cps.toList) := by
      rw [Bool.eq_iff_iff]; simp
    dsimp only at h
    rw [e] at h
    exact ⟨c, z, rfl, rfl, h.bl m⟩
  · exact h.elim
theorem ok_notinS {G : Cfg} : Op2 G (fun x y H Q => ∃ (c : Nat) (z : Str), x = .str ⟨#[c]⟩ ∧ y = .str z ∧ Q (.bl (!decide (c ∈ z.cps.toList))) H) (kInS true) := by
  intro w σ W x y a b Q m rx ry h
  unfold kInS at h
  split at h
  · rename_i c z
    cases rx; cases ry
    have e : z.cps.toList.elem c = decide (c ∈ z.cps.toList) := by
      rw [Bool.eq_iff_iff]; simp
    dsimp only at h
    rw [e] at h
    exact ⟨c, z, rfl, rfl, h.bl m⟩
  · exact h.elim
/-- str(n), int(text), gcd -/
def kStrI (xs : List U) (h : List UO) : Rs U := match xs with | [.int i] => (match Nat.blt (Nat.log2 i.natAbs) 1920 with | true => .ok (.str (toString i)) h | false => .no) | _ => .no
def kIntS (xs : List U) (h : List UO) : Rs U := match xs with
  | [.str z] => (match PySem.intText? z, Nat.ble z.length 640 with | some n, true => .ok (.int n) h | _, _ => .no)
  | _ => .no
def kGcd (xs : List U) (h : List UO) : Rs U := match xs with | [.int i, .int j] => .ok (.int (Nat.gcd i.natAbs j.natAbs : Nat)) h | _ => .no
theorem ok_strI {G : Cfg} : OpC G (fun xs H Q => ∃ i, xs = [.int i] ∧ i.natAbs.log2 < 1920 ∧ Q (.str (toString i)) H) kStrI := by
  intro w σ W xs vs Q m l h
  unfold kStrI at h
  split at h
  · rename_i i
    obtain ⟨v, rfl, rv⟩ := ob1 (as := []) l
    cases rv
    split at h
    · rename_i q
      exact ⟨i, rfl, Nat.le_of_ble_eq_true q, h.str m⟩
    · exact h.elim
  · exact h.elim
theorem ok_intS {G : Cfg} : OpC G (fun xs H Q => ∃ a n, xs = [.str a] ∧ PySem.intText? a = some n ∧ a.length ≤ 640 ∧ Q (.int n) H) kIntS := by
  intro w σ W xs vs Q m l h
  unfold kIntS at h
  split at h
  · rename_i z
    obtain ⟨v, rfl, rv⟩ := ob1 (as := []) l
    cases rv
    split at h
    · rename_i n q1 q2
      exact ⟨z, n, rfl, q1, Nat.le_of_ble_eq_true q2, h.int m⟩
    · exact h.elim
  · exact h.elim
theorem ok_gcd {G : Cfg} : OpC G rGcd kGcd := by
  intro w σ W xs vs Q m l h
  unfold kGcd at h
  split at h
  · rename_i i j
    cases l with
    | cons r t =>
      obtain ⟨v, rfl, rv⟩ := ob1 (as := []) t
      cases r; cases rv
      exact ⟨i, j, rfl, h.int m⟩
  · exact h.elim
/-- z.partition(y) -/
def kPart (a : Str) (y : U) (h : List UO) : Rs U := match y with
  | .str b => (match !(b.length == 0) && szOk a.length with
    | true => .ok (.tup [.str (Txt.partition a b).1, .str (Txt.partition a b).2.1, .str (Txt.partition a b).2.2]) h
    | false => .no)
  | _ => .no
def ePart (fo fe : Ev) : Ev := fun us h => (fo us h).bind fun x h1 => match x with
  | .str z => (fe us h1).bind fun y h2 => kPart z y h2
  | _ => .no
section
variable {X : Cx} {G : Cfg} {W : WX} {a b o e : Expr} {es : List Expr} {fa fb fo fe : Ev} {fA : EvA} {pos p apos : Pos} {x : Str}
theorem f_mulW (ha : PE X a (tE G fa W)) (hb : PE X b (tE G fb W)) : PE X (.BinOp a .Mult b pos) (tE G (e2 kMulW fa fb) W) := f_op2 or_mulW ok_mulW ha hb
theorem f_fdivA (ha : PE X a (tE G fa W)) (hb : PE X b (tE G fb W)) : PE X (.BinOp a .FloorDiv b pos) (tE G (e2 (kI cDivA Int.fdiv) fa fb) W) := f_op2 op_fdivA (ok_I cDivA_ok) ha hb
theorem f_inS (ha : PE X a (tE G fa W)) (hb : PE X b (tE G fb W)) (hm : behindInMarks .In b = false := by rfl) : PE X (.Compare a [.In] [b] pos) (tE G (e2 (kInS false) fa fb) W) := f_cmp op_in_sign ok_inS ha hb hm
theorem f_notinS (ha : PE X a (tE G fa W)) (hb : PE X b (tE G fb W)) (hm : behindInMarks .NotIn b = false := by rfl) : PE X (.Compare a [.NotIn] [b] pos) (tE G (e2 (kInS true) fa fb) W) := f_cmp op_notIn_sign ok_notinS ha hb hm
theorem t_inS (ha : PE X a (tE G fa W)) (hb : PE X b (tE G fb W)) (hm : behindInMarks .In b = false := by rfl) : PT X (.Compare a [.In] [b] pos) (tT G (bE (e2 (kInS false) fa fb)) W) := t_cmp op_in_sign ok_inS ha hb hm
theorem t_notinS (ha : PE X a (tE G fa W)) (hb : PE X b (tE G fb W)) (hm : behindInMarks .NotIn b = false := by rfl) : PT X (.Compare a [.NotIn] [b] pos) (tT G (bE (e2 (kInS true) fa fb)) W) := t_cmp op_notIn_sign ok_notinS ha hb hm
theorem f_strI (hg : Gl X "str") (hm : X.mg "str" = none) (ha : PA X [e] (tA G fA W)) (he : starEach [e] X.env = (false, eval e X.env) :: starEach [] X.env := by rfl) : PE X (.Call (.Name "str" p) [e] [] pos) (tE G (eCall kStrI fA) W) :=
  f_callTy call_str_int ok_strI hg hm (by decide +kernel) ha (he := he)
theorem f_intS (hg : Gl X "int") (hm : X.mg "int" = none) (ha : PA X [e] (tA G fA W)) (he : starEach [e] X.env = (false, eval e X.env) :: starEach [] X.env := by rfl) : PE X (.Call (.Name "int" p) [e] [] pos) (tE G (eCall kIntS fA) W) :=
  f_callTy call_int_str ok_intS hg hm (by decide +kernel) ha (he := he)
theorem f_gcd (hg : Gl X x) (hm : X.mg x = some (.builtin "math.gcd")) (ha : PA X (e :: es) (tA G fA W)) (hdb : (x == ("__debug__" : Str)) = false := by decide)
    (he : starEach (e :: es) X.env = (false, eval e X.env) :: starEach es X.env := by rfl) (hpl : (backTo pos (starEach es X.env)).any (·.1) = false := by rfl) : PE X (.Call (.Name x p) (e :: es) [] pos) (tE G (eCall kGcd fA) W) :=
  PE.imp (pe_callBfun cr_gcd hg hm ha hdb he hpl) fun _ _ _ h => callC_of ok_gcd h
theorem f_slS {lo hi : Option Expr} {fl fh : EvO} {p2 : Pos} (ha : PE X a (tE G fa W)) (hl : PO X lo (tO G fl W)) (hh : PO X hi (tO G fh W)) : PE X (.Subscript a (.Slice lo hi none p2) pos) (tE G (eSlS fa fl fh) W) :=
  PE.imp (pe_slice (r := rSlS) sl_str ha hl hh) fun σ _ Q ⟨us, w, e, m, sl, h⟩ => by
    subst e
    refine ⟨us, w, rfl, m, sl, (Pt.bind h).imp ?_⟩
    rintro x H1 ⟨w1, a, rfl, e1, m1, r1, h1⟩
    refine ⟨us, w1, rfl, m1, sl.up m e1, (Pt.bind (Rel := fun _ (a b : Option Int) => a = b) h1).imp ?_⟩
    rintro l H2 ⟨w2, l', rfl, e2, m2, rfl, h2⟩
    refine ⟨us, w2, rfl, m2, (sl.up m e1).up m1 e2, (Pt.bind (Rel := fun _ (a b : Option Int) => a = b) h2).imp ?_⟩
    rintro u H3 ⟨w3, u', rfl, e3, m3, rfl, h3⟩
    unfold kSlS at h3
    split at h3
    · rename_i z
      cases r1
      split at h3
      · rename_i q
        exact ⟨z, rfl, szOk_le q, h3.str m3⟩
      · exact h3.elim
    · exact h3.elim
theorem f_part (ho : PE X o (tE G fo W)) (he : PE X e (tE G fe W)) (hs : starEach [e] X.env = [(false, eval e X.env)] := by rfl) (hbase : attributeBase o "partition" X.env (eval o X.env) = eval o X.env := by rfl) (hline : (apos.endLine == pos.line) = true := by rfl) :
    PE X (.Call (.Attribute o "partition" apos) [e] [] pos) (tE G (ePart fo fe) W) :=
  PE.imp (pe_partition ho he hs hbase hline) fun σ _ Q ⟨us, w, eq, m, sl, h⟩ => by
    subst eq
    refine ⟨us, w, rfl, m, sl, (Pt.bind (Rel := R G) h).imp ?_⟩
    rintro x H1 ⟨w1, u, rfl, e1, m1, r1, h1⟩
    split at h1
    · rename_i z
      cases r1
      refine ⟨⟨z, rfl⟩, us, w1, rfl, m1, sl.up m e1, (Pt.bind (Rel := R G) h1).imp ?_⟩
      rintro y H2 ⟨w2, u2, rfl, e2, m2, r2, h2⟩
      unfold kPart at h2
      split at h2
      · cases r2
        split at h2
        · rename_i q
          rw [Bool.and_eq_true] at q
          exact ⟨_, _, rfl, rfl, by simpa using q.1, szOk_le q.2, fun p hp => h2.newT m2 (.cons (.str _) (.cons (.str _) (.cons (.str _) .nil))) hp⟩
        · exact h2.elim
      · exact h2.elim
    · exact h1.elim
theorem f_globS {n : Str} {t : Tok} (hg : Gl X x) (hm : X.mg x = some (.str n t)) (hd : (x == ("__debug__" : Str)) = false := by decide) : PE X (.Name x pos) (tE G (eC (.str n)) W) :=
  PE.imp (pe_glob hg hm (v := .str n) ⟨_, rfl⟩ hd) fun _ _ _ q => c_of (fun _ => .str n) q
theorem f_clsName {c : Nat} (hg : Gl X x) (hm : X.mg x = some (.ref (G.cl c))) (hd : (x == ("__debug__" : Str)) = false := by decide) : PE X (.Name x pos) (tE G (eC (.cls c)) W) :=
  PE.imp (pe_glob hg hm (v := .ref (G.cl c)) rfl hd) fun _ _ _ q => c_of (fun _ => .cls c) q
end
end Fn
/-! methods, classmethods, isinstance of own classes, f-strings, try, defs with defaults -/
namespace Fn
open PySem L2 PySem.Spec PyProof.Rows
/-! ### never come to -/
def gNo : Sv := fun _ _ => .no
theorem s_no {X : Cx} {G : Cfg} {W : WX} {st : Stmt} : PS X st (tS G gNo W) := PS.imp ps_never fun D σ _ ⟨us, w, e, m, sl, h⟩ => h.elim
/-! ### methods -/
theorem zip_none {m : Str} : ∀ {ly : List Str} {vs : List V}, ly.contains m = false → (ly.zip vs).lookup m = none
  | [], _, _ => by simp
  | _ :: _, [], _ => by simp
  | x :: ly, y :: vs, h => by
    rw [List.contains_cons, Bool.or_eq_false_iff] at h
    rw [List.zip_cons_cons, List.lookup_cons, h.1]
    exact zip_none h.2
/-- C.m(..), a classmethod -/
def eMethC (c n : Nat) (f : Fg) (fo : Ev) (fa : EvA) : Ev := fun us h => (fo us h).bind fun x h1 => match x with
  | .cls d => (match Nat.beq d c with | true => (fa us h1).bind fun as h2 => kG n f (.cls c :: as) h2 | false => .no)
  | _ => .no
section
variable {X : Cx} {G : Cfg} {W : WX} {o a b e : Expr} {es : List Expr} {fo fa fb : Ev} {fA : EvA} {c k kk n : Nat} {F : Fg} {m x : Str} {pos p apos : Pos} {A : Addr} {fd : FuncData} {ps : List Str} {pl : Sem Bool}
theorem f_methO (T : OwnC X.K (G.cl c)) (hmt : Meth X.K (G.cl c) m A) (hly : (G.ly c).contains m = false) (Fk : FnOk X.prog X.w X.K X.mg X.base (L2.CX X.prog X.w) kk A fd ps (fnG G n F)) (hr : Room kk X.A) (hb : Binds X.K fd ps []) (tk : Takes X W) (ho : PE X o (tE G fo W)) (ha : PA X (e :: es) (tA G fA W))
    (hst : starEach (e :: es) X.env = (false, eval e X.env) :: starEach es X.env := by rfl) (hpl : (backTo pos (starEach es X.env)).any (·.1) = false := by rfl)
    (ht : eval (.Call (.Attribute o m apos) (e :: es) [] pos) X.env = (do let ov ← eval o X.env; standAt apos.atName; let (f, first) ← holding [ov] (getMethod ov m pl); callWith pos f first (backTo pos (starEach (e :: es) X.env)) (backToKw pos (keywordEach [] X.env))) := by rfl) :
    PE X (.Call (.Attribute o m apos) (e :: es) [] pos) (tE G (eMethO c n F fo fA) W) := by
  refine ⟨fun pins s σ H Q I ⟨us, w, eH, mw, sl, h⟩ => ?_⟩
  subst eH
  have go : tE G fo W σ w.H fun x H1 => ∃ q dx fs, x = .ref q ∧ H1 q = some (.ins (G.cl c) dx fs) ∧ fs.lookup m = none ∧ tA G fA W σ H1 fun vs H2 => fnG G n F (.ref q :: vs) H2 Q (WE W σ) := by
    refine ⟨us, w, rfl, mw, sl, (Pt.bind (Rel := R G) h).imp ?_⟩
    rintro x H1 ⟨w1, u, rfl, e1, m1, r1, h1⟩
    split at h1
    · rename_i q
      cases r1 with
      | @ob a dx c' us' vs' g1 g2 g3 l =>
        have ec : c' = c := Nat.eq_of_beq_eq_true q
        subst ec
        refine ⟨a, dx, _, rfl, g1, ?_, us, w1, rfl, m1, sl.up mw e1, (Pt.bind (Rel := RL G) h1).imp ?_⟩
        · exact zip_none hly
        · rintro vs H2 ⟨w2, as, rfl, e2, m2, r2, h2⟩
          exact kG_pt m2 (.cons ((R.ob g1 g2 g3 l).up m1 e2) r2) h2
      | _ => cases q
    · exact h1.elim
  refine PySem.W.methodCall_KW (pl := pl) (thn (ho.run pins s σ w.H _ I go) fun u s1 ⟨x, H1, I1, rx, q, dx, fs, ex, ea, l, z⟩ => ?_) ht
  subst ex
  cases rx
  refine getmeth_ok I1 ea T.cl hmt l ?_
  refine PySem.W.callWith_K (first := [.ref q]) (h₀ := X.base) I.ok.mod.kin hmt.kp (thn (ha.run pos pins s1 σ H1 _ I1 z) fun us s2 ⟨vs, H2, I2, r, q2⟩ => ⟨I2.kIn, ?_⟩) hst hpl
  exact run_fnS (E := WE W) (us := .ref q :: us) (vs := .ref q :: vs) Fk hr hb (passAt tk σ) I2 (.cons rfl r) q2
theorem run_cmS {pins : List (Addr × Obj)} {σ : L2.St} {H : Hp} {s : Shared} {C q : Addr} {Q : VK} {us : List Value} {vs : List V} {sp : Sp} (Fk : FnOk X.prog X.w X.K X.mg X.base (L2.CX X.prog X.w) kk A fd ps sp) (hr : Room kk X.A) (hb : Binds X.K fd ps []) (tk : Takes X W)
    (I : Inv X ((q, PySem.W.methodObj (.ref A) (.ref C)) :: pins) σ H s) (r : Vals vs us) (h : sp (.ref C :: vs) H Q (WE W σ)) : wpAny (model X.prog X.w) X.A (call (.ref q) us) (EP X pins σ Q) X.xe s := by
  have rv : Vals (.ref C :: vs) (.ref C :: us) := .cons rfl r
  have hl : ((Value.ref C :: us) ++ []).length = ps.length := by rw [List.append_nil, ← rv.length]; exact Fk.len _ _ _ _ h
  have bd := hb s (.ref C :: us) I.kIn hl
  rw [List.append_nil] at bd
  have run := Fk.run X.A X.stack s H ⟨.ref C :: us, []⟩ (.ref C :: us) (.ref C :: vs) Q (WE W σ) hr I.env0 bd rv h
  have z : wpAny (model X.prog X.w) X.A (call (.ref q) us) (EP X ((q, PySem.W.methodObj (.ref A) (.ref C)) :: pins) σ Q) X.xe s := by
    refine wpAny_call (PySem.W.method_call (ClX.pin_at I) (codeAny_mono run fun res s' hq => ?_))
    match res, hq with
    | .error e, hq => exact passAt tk σ _ H s e s' I hq
    | .ok (.ret _), hq => exact I.after hq
    | .ok .next, hq => exact hq.elim
    | .ok .brk, hq => exact hq.elim
    | .ok .cont, hq => exact hq.elim
  exact thn z fun _ _ y => ClX.unpinE y
theorem f_methC {mc : Value} {P : Addr} (rd : ClX.CRead X.K (G.cl c) mc) (cm : ClX.CMet X.K (G.cl c) mc m P A) (Fk : FnOk X.prog X.w X.K X.mg X.base (L2.CX X.prog X.w) kk A fd ps (fnG G n F)) (hr : Room kk X.A) (hb : Binds X.K fd ps []) (tk : Takes X W) (ho : PE X o (tE G fo W)) (ha : PA X (e :: es) (tA G fA W))
    (hst : starEach (e :: es) X.env = (false, eval e X.env) :: starEach es X.env := by rfl) (hpl : (backTo pos (starEach es X.env)).any (·.1) = false := by rfl)
    (ht : eval (.Call (.Attribute o m apos) (e :: es) [] pos) X.env = (do let ov ← eval o X.env; standAt apos.atName; let (f, first) ← holding [ov] (getMethod ov m pl); callWith pos f first (backTo pos (starEach (e :: es) X.env)) (backToKw pos (keywordEach [] X.env))) := by rfl) :
    PE X (.Call (.Attribute o m apos) (e :: es) [] pos) (tE G (eMethC c n F fo fA) W) := by
  refine ⟨fun pins s σ H Q I ⟨us, w, eH, mw, sl, h⟩ => ?_⟩
  subst eH
  have go : tE G fo W σ w.H fun x H1 => x = .ref (G.cl c) ∧ tA G fA W σ H1 fun vs H2 => fnG G n F (.ref (G.cl c) :: vs) H2 Q (WE W σ) := by
    refine ⟨us, w, rfl, mw, sl, (Pt.bind (Rel := R G) h).imp ?_⟩
    rintro x H1 ⟨w1, u, rfl, e1, m1, r1, h1⟩
    split at h1
    · rename_i d
      cases r1
      split at h1
      · rename_i q
        have ec : d = c := Nat.eq_of_beq_eq_true q
        subst ec
        refine ⟨rfl, us, w1, rfl, m1, sl.up mw e1, (Pt.bind (Rel := RL G) h1).imp ?_⟩
        rintro vs H2 ⟨w2, as, rfl, e2, m2, r2, h2⟩
        exact kG_pt m2 (.cons (.cls _) r2) h2
      · exact h1.elim
    · exact h1.elim
  refine PySem.W.methodCall_KW (pl := pl) (thn (ho.run pins s σ w.H _ I go) fun u s1 ⟨x, H1, I1, rx, ex, z⟩ => ?_) ht
  subst ex
  cases rx
  refine ClX.getmethcm_ok I1 rd cm fun s2 I2 => ?_
  refine ClX.callwith_cm I2 (ClX.base_none I1 (Nat.le_refl _)) cm.fi (thn (ha.run pos _ s2 σ H1 _ I2 z) fun us s3 ⟨vs, H2, I3, rv, q2⟩ => ⟨⟨ClX.pin_at I3, I3.kIn⟩, ?_⟩) hst hpl
  exact run_cmS Fk hr hb tk I3 rv q2
/-! ### isinstance(x, C), C an own class -/
structure InsC (K : PySem.W.Frag) (C : Addr) : Prop where
  cl : Cls K C
  ha : PySem.W.findIn K (.ref C) "__class__" = some (some (.builtin "object.__class__"))
  hn : PySem.W.specialIn K (.builtin "object.__class__") "__get__" = some (some (.builtin "getset_descriptor.__get__"))
  ht : PySem.W.takesIn K (.builtin "object.__class__") = some true
  hm : PySem.W.mroIn K C (.type "object") = some true
end
/-- the answer by the instance's class -/
def kIsO (ans : Nat → Option Bool) (x : U) (h : List UO) : Rs U := match x with
  | .ob c _ => (match ans c with | some b => .ok (.bl b) h | none => .no)
  | _ => .no
section
variable {X : Cx} {G : Cfg} {W : WX} {a e : Expr} {fa : Ev} {pos p p2 : Pos} {x : Str} {C : Addr} {ans : Nat → Option Bool}
theorem f_isO (hK : X.K = G.K) (hans : ∀ c b, ans c = some b → InsC X.K (G.cl c) ∧ PySem.W.kitOne X.K (.ref (G.cl c)) (.ref C) = some b) (hg : Gl X "isinstance") (hm : X.mg "isinstance" = none) (hgT : Gl X x) (hmT : X.mg x = some (.ref C)) (ha : PE X a (tE G fa W))
    (hd : (x == ("__debug__" : Str)) = false := by decide)
    (na : starEach [a, .Name x p2] X.env = (false, eval a X.env) :: starEach [.Name x p2] X.env := by rfl) (nb : starEach [.Name x p2] X.env = (false, eval (.Name x p2) X.env) :: starEach [] X.env := by rfl) (hpl : (backTo pos (starEach [.Name x p2] X.env)).any (·.1) = false := by rfl) :
    PE X (.Call (.Name "isinstance" p) [a, .Name x p2] [] pos) (tE G (e1 (kIsO ans) fa) W) :=
  PE.imp (pe_callB (call_isi (X := X)) hg hm (by decide +kernel) (pa_cons ha (pa_cons (pe_glob (v := .ref C) hgT hmT rfl hd) pa_nil nb) na) (he := na) (hpl := hpl)) fun σ _ Q ⟨us, w, e, m, sl, h⟩ => by
    subst e
    refine ⟨us, w, rfl, m, sl, (Pt.bind (Rel := R G) h).imp ?_⟩
    rintro v H1 ⟨w1, u, rfl, e1, m1, r1, h1⟩
    unfold kIsO at h1
    split at h1
    · split at h1
      · rename_i b q
        cases r1 with
        | ob g1 g2 g3 l =>
          obtain ⟨ic, hk⟩ := hans _ _ q
          exact ⟨_, _, _, _, b, rfl, .own C, .base (.ins g1 ic.cl ic.ha ic.hn ic.ht ic.hm), hk, h1.bl m1⟩
      · exact h1.elim
    · exact h1.elim
end
/-! ### f-strings -/
def eFmt (f : Ev) : Ev := fun us h => (f us h).bind fun x h1 => match x with
  | .str y => (match szOk y.length with | true => .ok (.str y) h1 | false => .no)
  | .int i => (match Nat.blt (Nat.log2 i.natAbs) 1920 with | true => .ok (.str (toString i)) h1 | false => .no)
  | _ => .no
def eJs : List Ev → Str → Ev
  | [], acc => fun _ h => .ok (.str acc) h
  | f :: fs, acc => fun us h => (f us h).bind fun x h1 => match x with
    | .str y => (match szOk (acc ++ y).length with | true => eJs fs (acc ++ y) us h1 | false => .no)
    | _ => .no
inductive FJ (X : Cx) (G : Cfg) (W : WX) : List Expr → List Ev → Prop where
  | nil : FJ X G W [] []
  | cons {e : Expr} {f : Ev} {es : List Expr} {fs : List Ev} (h : PE X e (tE G f W)) (r : FJ X G W es fs) : FJ X G W (e :: es) (f :: fs)
section
variable {X : Cx} {G : Cfg} {W : WX} {e v1 v2 : Expr} {rest : List Expr} {f : Ev} {fs : List Ev} {pos : Pos}
theorem f_fmt (he : PE X e (tE G f W)) : PE X (.FormattedValue e (-1) none pos) (tE G (eFmt f) W) :=
  PE.imp (pe_fmt he) fun σ _ Q ⟨us, w, eq, m, sl, h⟩ => by
    subst eq
    refine ⟨us, w, rfl, m, sl, (Pt.bind (Rel := R G) h).imp ?_⟩
    rintro x H1 ⟨w1, u, rfl, e1, m1, r1, h1⟩
    split at h1
    · cases r1
      split at h1
      · rename_i q
        exact .inl ⟨_, rfl, szOk_le q, h1.str m1⟩
      · exact h1.elim
    · cases r1
      split at h1
      · rename_i q
        exact .inr ⟨_, rfl, Nat.le_of_ble_eq_true q, h1.str m1⟩
      · exact h1.elim
    · exact h1.elim
theorem fj_pj {es : List Expr} (j : FJ X G W es fs) : PJ X es (fs.map fun f => tE G f W) := by
  induction j with
  | nil => exact .nil
  | cons h _ ih => exact .cons h ih
theorem fj_run {σ : L2.St} {Q : VK} : ∀ (fs : List Ev) (acc : Str) (w : Wd) (us : Lo), Sm G w → SL G w us σ → Pt G (R G) W σ w (eJs fs acc us w.h) Q → tJs (fs.map fun f => tE G f W) acc σ w.H fun out H1 => Q (.str out) H1
  | [], acc, w, us, m, sl, h => h.str m
  | f :: fs, acc, w, us, m, sl, h => by
    refine ⟨us, w, rfl, m, sl, (Pt.bind (Rel := R G) h).imp ?_⟩
    rintro x H1 ⟨w1, u, rfl, e1, m1, r1, h1⟩
    split at h1
    · cases r1
      split at h1
      · rename_i q
        exact ⟨_, rfl, szOk_le q, fj_run fs _ w1 us m1 (sl.up m e1) h1⟩
      · exact h1.elim
    · exact h1.elim
theorem f_joined (j : FJ X G W (v1 :: v2 :: rest) fs) : PE X (.JoinedStr (v1 :: v2 :: rest) pos) (tE G (eJs fs Str.empty) W) :=
  PE.imp (pe_joined (fj_pj j)) fun σ _ Q ⟨us, w, eq, m, sl, h⟩ => by
    subst eq
    exact fj_run fs _ w us m sl h
end
/-! ### try: the suite's test is known -/
/-- except C as e: if test(e): suite -/
def gTryIf (i : Nat) (catches cv : Nat → Option Bool) (gb gh : Sv) : Sv := fun us h => match gb us h with
  | .ex e us1 h1 => (match catches e.c with
    | some true => (match cv e.c, e.fs, Nat.blt i us1.length with
      | some true, [], true => (match gh (us1.set i none) h1 with | .nx us2 h2 => .nx (us2.set i none) h2 | _ => .no)
      | some false, [], true => .nx (us1.set i none) h1
      | _, _, _ => .no)
    | some false => .ex e us1 h1
    | none => .no)
  | r => r
/-- except C: suite -/
def gTryN (catches : Nat → Option Bool) (gb gh : Sv) : Sv := fun us h => match gb us h with
  | .ex e us1 h1 => (match catches e.c with
    | some true => (match e.fs with | [] => (match gh us1 h1 with | .nx us2 h2 => .nx us2 h2 | _ => .no) | _ => .no)
    | some false => .ex e us1 h1
    | none => .no)
  | r => r
theorem SL.none {G : Cfg} {w : Wd} {us : Lo} {σ : L2.St} {i : Nat} {v : Option V} (sl : SL G w us σ) : SL G w (us.set i none) (σ.set i v) := by
  refine ⟨by rw [List.length_set, List.length_set]; exact sl.1, fun j u h => ?_⟩
  by_cases e : i = j
  · subst e
    rw [List.getElem?_set] at h
    simp at h
  · rw [List.getElem?_set_ne e] at h ⊢
    exact sl.2 j u h
theorem s_tryIf {X : Cx} {G : Cfg} {W : WX} {x n : Str} {c : Value} {i : Nat} {body hb : List Stmt} {e : Expr} {np pos pos' rp : Pos} {catches cv : Nat → Option Bool} {gb gh : Sv}
    (hs : X.stack = X.env :: X.outer) (hf : X.env.frame = some X.env.locals) (hN : X.N.Nodup) (hi : X.N[i]? = some n) (hln : X.env.kindOf n = some .local) (hc : Names X x c) (tk : Takes X W)
    (hcat : ∀ k b, catches k = some b → PySem.W.exmOne X.K (.ref (G.cl k)) c = some b)
    (hbd : ∀ (W' : WX) (pn : List (Addr × Obj)) (xe : Value → Shared → Prop), Takes (X.tr pn xe) W' → PassesOwn (model X.prog X.w) X.A X.env xe → PSs (X.tr pn xe) body (tS G gb W'))
    (hcv : ∀ (k : Nat) (b : Bool) (a : Addr) (oe : Obj) (pn : List (Addr × Obj)), cv k = some b → Zc (.ref (G.cl k)) none oe → (∃ vs, oe.data = .fields vs) → PT (X.suite a ((a, oe) :: pn)) e (fun σ H Q => σ[i]? = some (some (.ref a)) ∧ ∀ H', NewT H H' → Q b H'))
    (hh : ∀ (a : Addr) (oe : Obj) (pn : List (Addr × Obj)), PSs (X.suite a ((a, oe) :: pn)) hb (tS G gh (fun _ _ _ _ => False))) :
    PS X (.Try body [.ExceptHandler (some (.Name x np)) (some n) [.If e hb [] rp] pos'] [] [] pos) (tS G (gTryIf i catches cv gb gh) W) :=
  PS.imp (ps_try_as (tb := fun W' => tS G gb W') (ts := fun a cls d D σ H => ∃ k b, cls = .ref (G.cl k) ∧ d = none ∧ cv k = some b ∧ σ[i]? = some (some (.ref a)) ∧ ∀ H', NewT H H' → ((b = true → tS G gh (fun _ _ _ _ => False) D σ H') ∧ (b = false → D.nx σ H'))) (Wout := W) hs hf hN hi hln hc tk hbd fun a oe cls d pn hz hfl => ⟨fun pins s σ H D I h => by
    obtain ⟨k, b, rfl, rfl, hr, hp, q⟩ := h
    refine (pss_one (ps_if (hcv k b a oe pn hr hz hfl) (hh a oe pn) pss_nil)).run pins s σ H D I ⟨hp, fun H' hN => ?_⟩
    have := q H' hN
    cases b with
    | true => exact this.1 rfl
    | false => exact this.2 rfl⟩) fun D σ _ ⟨us, w, e0, m, sl, h⟩ => by
    subst e0
    refine ⟨us, w, rfl, m, sl, ?_⟩
    unfold gTryIf at h
    cases hq : gb us w.h with
    | nx _ _ => rw [hq] at h; exact h
    | bk _ _ => rw [hq] at h; exact h
    | ct _ _ => rw [hq] at h; exact h
    | rt _ _ => rw [hq] at h; exact h
    | no => rw [hq] at h; exact h
    | ex x1 us1 h1 =>
      rw [hq] at h
      dsimp only at h
      intro w' σ' cls d a e1 m1 sl1 rx
      subst a
      obtain ⟨xc, fs⟩ := x1
      split at h
      · rename_i hcs
        dsimp only at h
        have put : ∀ {b : Bool} (hb2 : cv xc = some b) (hfs : fs = []) (hl : Nat.blt i us1.length = true) (z : ∀ (a : Addr) (w'' : Wd), w''.h = w'.h → Ext w w'' → Sm G w'' → SL G w'' (us1.set i none) (σ'.set i (some (.ref a))) → ((b = true → tS G gh (fun _ _ _ _ => False) { nx := fun σ2 H2 => D.nx (σ2.set i none) H2, rt := D.rt, bk := fun σ2 H2 => D.bk (σ2.set i none) H2, ct := fun σ2 H2 => D.ct (σ2.set i none) H2 } (σ'.set i (some (.ref a))) w''.H) ∧ (b = false → D.nx ((σ'.set i (some (.ref a))).set i none) w''.H))),
            wAs X.K c i (fun a cls d D σ H => ∃ k b, cls = .ref (G.cl k) ∧ d = none ∧ cv k = some b ∧ σ[i]? = some (some (.ref a)) ∧ ∀ H', NewT H H' → ((b = true → tS G gh (fun _ _ _ _ => False) D σ H') ∧ (b = false → D.nx σ H'))) W D cls d σ' w'.H := by
          intro b hb2 hfs hl z
          subst hfs
          obtain ⟨rfl, hd⟩ := rx
          have hd : d = none := hd
          subst hd
          have hl : i < σ'.length := by rw [← sl1.1]; exact Nat.le_of_ble_eq_true hl
          exact ⟨true, hcat _ _ hcs, fun _ a ha => ⟨xc, b, rfl, rfl, hb2, List.getElem?_set_self hl, fun H' hN => let ⟨w'', x1, x2, x3, x4⟩ := hN.wd m1; x1 ▸ z a w'' x2 (e1.trans x3) x4 (SL.none (sl1.up m1 x3))⟩, (fun z => nomatch z)⟩
        split at h
        · rename_i q1 q3
          refine put q1 rfl q3 fun a w'' y1 y2 y3 y4 => ⟨fun _ => ?_, (fun z => nomatch z)⟩
          refine ⟨_, w'', rfl, y3, y4, ?_⟩
          rw [y1]
          split at h
          · rename_i us2 h2 qh
            rw [qh]
            intro w3 σ3 z1 z2 z3 z4
            exact h w3 _ z1 (y2.trans z2) z3 (SL.none z4)
          · exact h.elim
        · rename_i q1 q3
          refine put q1 rfl q3 fun a w'' y1 y2 y3 y4 => ⟨(fun z => nomatch z), fun _ => ?_⟩
          refine h w'' _ y1 y2 y3 ?_
          have := SL.none (i := i) (v := none) y4
          rwa [List.set_set] at this
        · exact h.elim
      · rename_i hcs
        exact ⟨false, by rw [rx.1]; exact hcat _ _ hcs, (fun z => nomatch z), fun _ => h w' σ' cls d rfl e1 m1 sl1 rx⟩
      · exact h.elim
theorem s_tryN {X : Cx} {G : Cfg} {W : WX} {x : Str} {c : Value} {body hb : List Stmt} {b₀ : Stmt} {np pos pos' : Pos} {catches : Nat → Option Bool} {gb gh : Sv}
    (hs : X.stack = X.env :: X.outer) (hf : X.env.frame = some X.env.locals) (hc : Names X x c) (tk : Takes X W)
    (hcat : ∀ k b, catches k = some b → PySem.W.exmOne X.K (.ref (G.cl k)) c = some b)
    (hbd : ∀ (W' : WX) (pn : List (Addr × Obj)) (xe : Value → Shared → Prop), Takes (X.tr pn xe) W' → PassesOwn (model X.prog X.w) X.A X.env xe → PSs (X.tr pn xe) body (tS G gb W'))
    (hh : ∀ (a : Addr) (oe : Obj) (pn : List (Addr × Obj)), PSs (X.suite a ((a, oe) :: pn)) (b₀ :: hb) (tS G gh (fun _ _ _ _ => False))) :
    PS X (.Try body [.ExceptHandler (some (.Name x np)) none (b₀ :: hb) pos'] [] [] pos) (tS G (gTryN catches gb gh) W) :=
  PS.imp (ps_try_only (tb := fun W' => tS G gb W') (ts := fun a cls d => tS G gh (fun _ _ _ _ => False)) (Wout := W) hs hf hc tk hbd fun a oe cls d pn hz hfl => hh a oe pn) fun D σ _ ⟨us, w, e0, m, sl, h⟩ => by
    subst e0
    refine ⟨us, w, rfl, m, sl, ?_⟩
    unfold gTryN at h
    cases hq : gb us w.h with
    | nx _ _ => rw [hq] at h; exact h
    | bk _ _ => rw [hq] at h; exact h
    | ct _ _ => rw [hq] at h; exact h
    | rt _ _ => rw [hq] at h; exact h
    | no => rw [hq] at h; exact h
    | ex x1 us1 h1 =>
      rw [hq] at h
      dsimp only at h
      intro w' σ' cls d a e1 m1 sl1 rx
      subst a
      obtain ⟨xc, fs⟩ := x1
      split at h
      · rename_i hcs
        refine ⟨true, by rw [rx.1]; exact hcat _ _ hcs, fun _ a ha => ⟨us1, w', rfl, m1, sl1, ?_⟩, (fun z => nomatch z)⟩
        dsimp only at h
        split at h
        · split at h
          · rename_i us2 h2 qh
            rw [qh]
            intro w3 σ3 z1 z2 z3 z4
            exact h w3 σ3 z1 (e1.trans z2) z3 z4
          · exact h.elim
        · exact h.elim
      · rename_i hcs
        exact ⟨false, by rw [rx.1]; exact hcat _ _ hcs, (fun z => nomatch z), fun _ => h w' σ' cls d rfl e1 m1 sl1 rx⟩
      · exact h.elim
/-! ### defs with defaults -/
section
variable {P : Program} {w : World} {K : PySem.W.Frag} {mg : Str → Option Value} {base : Heap} {G : Cfg}
theorem okHD {x qual : Str} {st : Stmt} {f : Addr} {fd : FuncData} {N ps : List Str} {k : Nat} {body : Sv} {dvs : List V} (F : FunD K x qual (defArgs st) (defBody st) (defScope st) dvs [] f fd) (S : FnScope N ps (defScope st))
    (hbody : ∀ (cdv : Value) (A : Around) (outer : List Env) (s : Shared) (H : Hp) (E : XK), Room k (A.deeper (envOfC qual (defScope st) s.heap.objs.size f cdv)) → ∀ W : WX, Takes (cxOf (L2.CX P w) P w K mg base N qual (defScope st) f cdv A outer s H E) W →
      PSs (cxOf (L2.CX P w) P w K mg base N qual (defScope st) f cdv A outer s H E) (defBody st) (tS G body W)) : FnOk P w K mg base (L2.CX P w) (k + 1) f fd ps (fnH G ps.length (runH N.length body)) :=
  F.ok S (fun _ _ _ _ h => h.1) fun cdv A outer s H vs Q E hr h => by
    have tk : Takes (cxOf (L2.CX P w) P w K mg base N qual (defScope st) f cdv A outer s H E) (fun cls d _ H => E cls d H) := takes_of rfl rfl rfl rfl
    refine ⟨_, hbody cdv A outer s H E hr _ tk, ?_⟩
    obtain ⟨hl, us, w, rfl, m, l, h⟩ := h
    exact ⟨startU N.length us, w, rfl, m, start_sl l, finH_of (fun _ _ _ _ h => h) h⟩
end
end Fn
/-! tests of an exception that the suite holds; bool(n) -/
namespace Fn
open PySem L2 PySem.Spec PyProof.Rows
section
variable {X : Cx} {i : Nat} {a D : Addr} {oe : Obj} {pn : List (Addr × Obj)} {pos p : Pos} {e f : Expr} {b b' : Bool}
theorem p_isiB {n x : Str} {T : String} {p1 p2 : Pos} (E : ExcC X.K D) (hz : Zc (.ref D) none oe) (hf : ∃ vs, oe.data = .fields vs) (hk : PySem.W.subIn X.K (.ref D) (.type T) = some b) (hmt : PySem.W.kitMeta T = true)
    (hg : Gl X "isinstance") (hm : X.mg "isinstance" = none) (hgT : Gl X x) (hmT : X.mg x = none) (hvT : bootBuiltins x = some (.type T)) (hN : X.N[i]? = some n) (hv : Vis X.env.scope n) (hd : (n == ("__debug__" : Str)) = false := by decide) (hnx : x ≠ "__name__" := by decide) (hdx : (x == ("__debug__" : Str)) = false := by decide) (hcd : (n == ("__classdict__" : Str)) = false := by decide)
    (na : starEach [.Name n p1, .Name x p2] X.env = (false, eval (.Name n p1) X.env) :: starEach [.Name x p2] X.env := by rfl) (nb : starEach [.Name x p2] X.env = (false, eval (.Name x p2) X.env) :: starEach [] X.env := by rfl) (hpl : (backTo pos (starEach [.Name x p2] X.env)).any (·.1) = false := by rfl) :
    PE (X.suite a ((a, oe) :: pn)) (.Call (.Name "isinstance" p) [.Name n p1, .Name x p2] [] pos) (tP i a b) :=
  PE.imp (pe_callB (X := X.suite a ((a, oe) :: pn)) (call_isE E hz hf) hg hm (by decide +kernel) (pa_cons (pe_var (i := i) hN hv hd hcd) (pa_cons (pe_bltn (v := .ty T) hgT hmT hvT rfl hnx hdx) pa_nil nb) na) (he := na) (hpl := hpl)) fun σ H Q ⟨hp, q⟩ => by
    refine ⟨.ref a, hp, V.ty T, Value.type T, b, rfl, (fun u r => by cases r; rfl), ?_, q H (.refl H)⟩
    unfold PySem.W.kitOne PySem.W.kitCls
    rw [if_neg (by simp)]
    show (if PySem.W.kitMeta T = true then _ else _) = _
    rw [if_pos hmt]
    exact hk
/-- as a test -/
def tPT (i : Nat) (a : Addr) (b : Bool) : TT := fun σ H Q => σ[i]? = some (some (.ref a)) ∧ ∀ H', NewT H H' → Q b H'
variable {Y : Cx}
theorem q_val (h : PE Y e (tP i a b)) (he : ∀ whole, isTrue e Y.env whole = (do let v ← whole; standAt e.pos; holding [v] (truthy v)) := by intro _; rfl) : PT Y e (tPT i a b) :=
  PT.imp (pt_val h he) fun σ H Q ⟨hp, q⟩ => ⟨hp, fun H' hN => ⟨b, rfl, q H' hN⟩⟩
theorem q_not {b'' : Bool} (eb : (!b) = b'') (h : PT Y e (tPT i a b)) : PT Y (.UnaryOp .Not e pos) (tPT i a b'') :=
  eb ▸ PT.imp (pt_not h) fun σ H Q ⟨hp, q⟩ => ⟨hp, fun H' hN => q H' hN⟩
theorem q_and1 (h : PT Y e (tPT i a b)) : PW Y (.BoolOp .And [e] pos) (tPT i a b) := pw_and1 h
theorem q_or1 (h : PT Y e (tPT i a b)) : PW Y (.BoolOp .Or [e] pos) (tPT i a b) := pw_or1 h
theorem q_and {rest : List Expr} {b'' : Bool} (eb : (b && b') = b'') (h : PT Y e (tPT i a b)) (h' : PW Y (.BoolOp .And (f :: rest) pos) (tPT i a b')) : PW Y (.BoolOp .And (e :: f :: rest) pos) (tPT i a b'') :=
  eb ▸ PW.imp (pw_and h h') fun σ _ Q ⟨hp, q⟩ => ⟨hp, fun H' hN => by
    cases b with
    | true => exact ⟨hp, fun H'' hN' => q H'' (hN.trans hN')⟩
    | false => exact q H' hN⟩
theorem q_or {rest : List Expr} {b'' : Bool} (eb : (b || b') = b'') (h : PT Y e (tPT i a b)) (h' : PW Y (.BoolOp .Or (f :: rest) pos) (tPT i a b')) : PW Y (.BoolOp .Or (e :: f :: rest) pos) (tPT i a b'') :=
  eb ▸ PW.imp (pw_or h h') fun σ _ Q ⟨hp, q⟩ => ⟨hp, fun H' hN => by
    cases b with
    | false => exact ⟨hp, fun H'' hN' => q H'' (hN.trans hN')⟩
    | true => exact q H' hN⟩
theorem q_pt (h : PW Y e (tPT i a b)) : PT Y e (tPT i a b) := h.pt
end
theorem dun_Add {K : PySem.W.Frag} {C a : Addr} (d : Dun K C "__add__" a) : Dun K C (PySem.dunder (Operator.info .Add).2) a := by
  have e : PySem.dunder (Operator.info .Add).2 = "__add__" := by decide +kernel
  rw [e]; exact d
theorem dun_Sub {K : PySem.W.Frag} {C a : Addr} (d : Dun K C "__sub__" a) : Dun K C (PySem.dunder (Operator.info .Sub).2) a := by
  have e : PySem.dunder (Operator.info .Sub).2 = "__sub__" := by decide +kernel
  rw [e]; exact d
theorem dun_Mult {K : PySem.W.Frag} {C a : Addr} (d : Dun K C "__mul__" a) : Dun K C (PySem.dunder (Operator.info .Mult).2) a := by
  have e : PySem.dunder (Operator.info .Mult).2 = "__mul__" := by decide +kernel
  rw [e]; exact d
theorem dun_FloorDiv {K : PySem.W.Frag} {C a : Addr} (d : Dun K C "__floordiv__" a) : Dun K C (PySem.dunder (Operator.info .FloorDiv).2) a := by
  have e : PySem.dunder (Operator.info .FloorDiv).2 = "__floordiv__" := by decide +kernel
  rw [e]; exact d
/-- bool(n) -/
def kBoolI (xs : List U) (h : List UO) : Rs U := match xs with | [.int i] => .ok (.bl (i != 0)) h | [.bl b] => .ok (.bl b) h | _ => .no
theorem ok_boolI {G : Cfg} : OpC G (fun xs H Q => (∃ i, xs = [.int i] ∧ Q (.bl (i != 0)) H) ∨ ∃ k, xs = [.bl k] ∧ Q (.bl k) H) kBoolI := by
  intro w σ W xs vs Q m l h
  unfold kBoolI at h
  split at h
  · obtain ⟨v, rfl, rv⟩ := ob1 (as := []) l
    cases rv
    exact .inl ⟨_, rfl, h.bl m⟩
  · obtain ⟨v, rfl, rv⟩ := ob1 (as := []) l
    cases rv
    exact .inr ⟨_, rfl, h.bl m⟩
  · exact h.elim
theorem f_boolI {X : Cx} {G : Cfg} {W : WX} {e : Expr} {fA : EvA} {p pos : Pos} (hg : Gl X "bool") (hm : X.mg "bool" = none) (ha : PA X [e] (tA G fA W)) (he : starEach [e] X.env = (false, eval e X.env) :: starEach [] X.env := by rfl) : PE X (.Call (.Name "bool" p) [e] [] pos) (tE G (eCall kBoolI fA) W) :=
  f_callTy call_bool1 ok_boolI hg hm (by decide +kernel) ha (he := he)
end Fn
/-! texts: join, rjust, list(text); lists: extend, unpacking; dicts with plain keys; C(..) with a default -/
namespace Fn
open PySem L2 PySem.Spec PyProof.Rows
/-! ### texts -/
def toStrs : List U → Option (List Str)
  | [] => some []
  | .str x :: r => (match toStrs r with | some ys => some (x :: ys) | none => none)
  | _ => none
theorem toStrs_of {G : Cfg} {w : Wd} : ∀ {us : List U} {vs : List V} {ys : List Str}, RL G w us vs → toStrs us = some ys → vs = ys.map V.str
  | _, _, _, .nil, e => by cases e; rfl
  | _, _, ys, .cons r t, e => by
    cases r with
    | str x =>
      unfold toStrs at e
      split at e
      · rename_i zs q
        cases e
        rw [toStrs_of t q]; rfl
      · cases e
    | _ => cases e
def kJoin (a : Str) (y : U) (h : List UO) : Rs U := match seqU h y with
  | some us => (match toStrs us with
    | some ys => (match Nat.ble ((ys.map (·.length)).sum + ys.length * a.length) 16777216 with | true => .ok (.str (Txt.join a ys)) h | false => .no)
    | none => .no)
  | none => .no
def eJoin (fo fe : Ev) : Ev := fun us h => (fo us h).bind fun x h1 => match x with
  | .str z => (fe us h1).bind fun y h2 => kJoin z y h2
  | _ => .no
def kRj (a : Str) (y : U) (h : List UO) : Rs U := match y with
  | .int i => (match PadOk i with | true => .ok (.str (Txt.rjust a i)) h | false => .no)
  | _ => .no
def eRj (fo fe : Ev) : Ev := fun us h => (fo us h).bind fun x h1 => match x with
  | .str z => (fe us h1).bind fun y h2 => kRj z y h2
  | _ => .no
section
variable {X : Cx} {G : Cfg} {W : WX} {a b o e : Expr} {es : List Expr} {fa fb fo fe : Ev} {fA : EvA} {pos p apos : Pos} {x : Str}
theorem f_join (hK : X.K = G.K) (ho : PE X o (tE G fo W)) (he : PE X e (tE G fe W)) (hs : starEach [e] X.env = [(false, eval e X.env)] := by rfl) (hbase : attributeBase o "join" X.env (eval o X.env) = eval o X.env := by rfl) (hline : (apos.endLine == pos.line) = true := by rfl) :
    PE X (.Call (.Attribute o "join" apos) [e] [] pos) (tE G (eJoin fo fe) W) :=
  PE.imp (pe_join ho he hs hbase hline) fun σ _ Q ⟨us, w, eq, m, sl, h⟩ => by
    subst eq
    refine ⟨us, w, rfl, m, sl, (Pt.bind (Rel := R G) h).imp ?_⟩
    rintro x H1 ⟨w1, u, rfl, e1, m1, r1, h1⟩
    split at h1
    · rename_i z
      cases r1
      refine ⟨⟨z, rfl⟩, us, w1, rfl, m1, sl.up m e1, (Pt.bind (Rel := R G) h1).imp ?_⟩
      rintro y H2 ⟨w2, u2, rfl, e2, m2, r2, h2⟩
      unfold kJoin at h2
      split at h2
      · rename_i us2 q
        split at h2
        · rename_i ys q2
          split at h2
          · rename_i q3
            obtain ⟨p, vs, rfl, hs, l⟩ := seqU_of m2 r2 q
            have e3 := toStrs_of l q2
            subst e3
            exact ⟨z, p, ys, rfl, rfl, hK ▸ hs, Nat.le_of_ble_eq_true q3, h2.str m2⟩
          · exact h2.elim
        · exact h2.elim
      · exact h2.elim
    · exact h1.elim
theorem f_rjust (ho : PE X o (tE G fo W)) (he : PE X e (tE G fe W)) (hs : starEach [e] X.env = [(false, eval e X.env)] := by rfl) (hbase : attributeBase o "rjust" X.env (eval o X.env) = eval o X.env := by rfl) (hline : (apos.endLine == pos.line) = true := by rfl) :
    PE X (.Call (.Attribute o "rjust" apos) [e] [] pos) (tE G (eRj fo fe) W) :=
  PE.imp (pe_m1 PySem.F.slot_str_rjust PySem.F.type_str_rjust mt_rjust ho he hs hbase hline) fun σ _ Q ⟨us, w, eq, m, sl, h⟩ => by
    subst eq
    refine ⟨us, w, rfl, m, sl, (Pt.bind (Rel := R G) h).imp ?_⟩
    rintro x H1 ⟨w1, u, rfl, e1, m1, r1, h1⟩
    split at h1
    · rename_i z
      cases r1
      refine ⟨⟨z, rfl⟩, us, w1, rfl, m1, sl.up m e1, (Pt.bind (Rel := R G) h1).imp ?_⟩
      rintro y H2 ⟨w2, u2, rfl, e2, m2, r2, h2⟩
      unfold kRj at h2
      split at h2
      · cases r2
        split at h2
        · rename_i q
          exact ⟨z, _, rfl, rfl, q, h2.str m2⟩
        · exact h2.elim
      · exact h2.elim
    · exact h1.elim
/-- list(text): its signs -/
theorem items_signs {z : Str} {acc : Array Value} (h : ItemsOf (SignAt z) acc z.cps.size) : Vals (z.cps.toList.map fun c => V.str ⟨#[c]⟩) acc.toList := by
  refine vals_of_at ?_ fun j x u h1 h2 => ?_
  · rw [List.length_map, Array.length_toList, Array.length_toList, h.1]
  · obtain ⟨c, t, e1, rfl⟩ := h.2 j u (by rw [← h2, Array.getElem?_toList])
    rw [List.getElem?_map, Array.getElem?_toList, e1] at h1
    cases h1
    exact ⟨t, rfl⟩
end
theorem cr_listS {X : Cx} (hc : X.calm = true) : CallR X (.type "list") (fun xs H Q => ∃ z : Str, xs = [.str z] ∧ z.length ≤ sizeLine ∧ ∀ p, H p = none → Q (.ref p) (upd H p (.lst (z.cps.toList.map fun c => V.str ⟨#[c]⟩)))) := by
  intro pins s σ H xs us Q I r h
  obtain ⟨z, rfl, hz, q⟩ := h
  obtain ⟨u, rfl, rx⟩ := vals1 r
  obtain ⟨t, rfl⟩ := rx
  refine call_list_str (I.ok.hd hc) z t (fun h' tk acc' c' hkeep hS hacc => ?_) hz
  refine ⟨.ref s.heap.objs.size, upd H s.heap.objs.size (.lst (z.cps.toList.map fun c => V.str ⟨#[c]⟩)), I.laid hkeep (Nat.le_refl _) (show ObjOk X.prog X.w _ _ _ (.lst (z.cps.toList.map fun c => V.str ⟨#[c]⟩)) from ⟨?_, acc'.toList, c', items_signs hacc, ?_⟩), rfl, q _ (I.hok.fresh (Nat.le_refl _))⟩
  · rw [List.length_map, Array.length_toList]; exact hz
  · rw [Array.toArray_toList]; exact hS
def eListS (fa : EvA) : EvL := fun us h => (fa us h).bind fun xs h1 => match xs with
  | [.str z] => (match szOk z.length with | true => .ok (z.cps.toList.map fun c => U.str ⟨#[c]⟩) h1 | false => .no)
  | _ => .no
theorem rl_signs {G : Cfg} {w : Wd} : ∀ l : List Nat, RL G w (l.map fun c => U.str ⟨#[c]⟩) (l.map fun c => V.str ⟨#[c]⟩)
  | [] => .nil
  | c :: r => .cons (.str _) (rl_signs r)
section
variable {X : Cx} {G : Cfg} {W : WX} {a b c o e i : Expr} {es : List Expr} {fa fb fo fe fi : Ev} {fA : EvA} {pos p apos cpos tpos : Pos} {x : Str} {kk : Nat}
theorem f_listS (hc : X.calm = true) (hg : Gl X "list") (hm : X.mg "list" = none) (ha : PA X [e] (tA G fA W)) (he : starEach [e] X.env = (false, eval e X.env) :: starEach [] X.env := by rfl) : PE X (.Call (.Name "list" p) [e] [] pos) (tN G (eListS fA) W) :=
  PE.imp (pe_callTy (cr_listS hc) hg hm (by decide +kernel) ha (he := he)) fun σ _ Q ⟨us, w, e, m, sl, h⟩ => by
    subst e
    refine ⟨us, w, rfl, m, sl, (PtN.bind h).imp ?_⟩
    rintro vs H1 ⟨w1, xs, rfl, e1, m1, r1, h1⟩
    split at h1
    · rename_i z
      obtain ⟨v, rfl, rv⟩ := ob1 (as := []) r1
      cases rv
      split at h1
      · rename_i q
        exact ⟨z, rfl, szOk_le q, fun p hp => newL e1 m1 (rl_signs _) rfl h1 hp⟩
      · exact h1.elim
    · exact h1.elim
/-- a, b = a list of that length -/
def aLst (b : List U → Lo → Option Lo) : Tgt := fun u us => match u with | .fl xs => b xs us | _ => none
theorem g_lst {k n : Nat} {b : List U → Lo → Option Lo} {sl : List Nat} (hK : X.K = G.K) (hc : X.calm = true) (h : PGs X es (tGs G b sl)) (hl : ∀ xs us us', b xs us = some us' → xs.length = n)
    (hn : (assignEach es X.env).length = n := by rfl) (hst : (assignEach es X.env).findIdx? (·.1) = none := by rfl) : PG X (.Tuple es k pos) (tG G (aLst b) sl) :=
  PG.imp (pg_unl hc h hn hst) fun v σ _ Q ⟨u, us, w, e, m, sl, r, h⟩ => by
    subst e
    cases r with
    | @fl a xs vs h1 h2 l =>
      have h : (match b xs us with | some us' => ∀ σ', SL G w us' σ' → Ag _ σ σ' → Q σ' w.H | none => False) := h
      cases q : b xs us with
      | none => rw [q] at h; exact h.elim
      | some us' =>
        rw [q] at h
        exact ⟨a, vs, rfl, .inl (.inl h1), by rw [← l.length]; exact hl _ _ _ q, xs, us, w, rfl, m, sl, l, by rw [q]; exact h⟩
    | _ => exact h.elim
/-- xs.extend(ys) -/
def kExtend (x : U) (as : List U) (h : List UO) : Rs U := match x, as with
  | .ref p, [y] => (match h[p]?, lstH h y with
    | some (.lst xs), some ys => (match szOk (xs.length + ys.length) with | true => .ok .non (h.set p (.lst (xs ++ ys))) | false => .no)
    | _, _ => .no)
  | _, _ => .no
theorem ok_extend : OpM G rExtend kExtend := by
  intro w σ W x a xs vs Q m r l h
  unfold kExtend at h
  split at h
  · rename_i p y
    obtain ⟨vy, rfl, ry⟩ := ob1 (as := []) l
    split at h
    · rename_i xs ys q1 q2
      split at h
      · rename_i q3
        cases r with
        | @ref _ D hr =>
          cases m.obj _ _ _ hr q1 with
          | @lst _ ws hv l1 =>
            obtain ⟨bb, zs, rfl, hb, l2⟩ := lstH_of m ry q2
            have e : Ext w (w.put p D (.lst (xs ++ ys)) (.lst (ws ++ zs))) := Ext.put m hr q1
            refine ⟨D, bb, ws, zs, rfl, rfl, hv, hb, by rw [← l1.length, ← l2.length]; exact szOk_le q3, ?_⟩
            exact h (w.put p D (.lst (xs ++ ys)) (.lst (ws ++ zs))) .non rfl e (m.put hr q1 (.lst upd_same ((l1.append l2).up m e))) .non
      · exact h.elim
    · exact h.elim
  · exact h.elim
theorem f_extend (hK : X.K = G.K) (ho : PE X o (tE G fo W)) (ha : PA X [e] (tA G fA W)) (hbase : attributeBase o "extend" X.env (eval o X.env) = eval o X.env := by rfl)
    (hline : (apos.endLine == cpos.line) = true := by rfl) (hs : starEach [e] X.env = (false, eval e X.env) :: starEach [] X.env := by rfl)
    (hfew : ((backTo cpos (starEach [e] X.env)).all (fun x => !x.1) && (backToKw cpos (keywordEach [] X.env)).all (fun x => x.1.isSome) && decide ([e].length + ([] : List Keyword).length + (if ([] : List Keyword).isEmpty then 0 else 1) < 30)) = true := by rfl) :
    PE X (.Call (.Attribute o "extend" apos) [e] [] cpos) (tE G (eMt kExtend fo fA) W) := f_mt hK PySem.F.slot_list_extend PySem.F.type_list_extend mt_extend ok_extend ho ha hbase hfew hline hs rfl
/-! ### dicts with plain keys -/
def eDnewK : Ev := fun _ h => .ok (.ref h.length) (h ++ [.dk []])
theorem newDK {w : Wd} {p : Addr} (m : Sm G w) (hp : w.H p = none) : ∃ w' : Wd, w'.h = w.h ++ [.dk []] ∧ w'.H = upd w.H p (.dK []) ∧ Ext w w' ∧ Sm G w' ∧ R G w' (.ref w.h.length) (.ref p) :=
  toTrackedO (o := .dk []) (Ext.newZ (o := .dK []) hp) (m.newZ hp) (fun w'' le => .dk (vs := []) (by rw [le.H]; exact upd_same) .nil) hp (.inr rfl) (m.free_r hp)
theorem f_dnewK : PE X (.Dict [] [] pos) (tE G eDnewK W) := PE.imp pe_dnewK fun σ _ Q ⟨us, w, e, m, sl, h⟩ => by
  subst e
  intro p hp
  obtain ⟨w', h1, h2, e1, m1, r⟩ := newDK m hp
  rw [← h2]
  exact h w' _ h1 e1 m1 r
def gPutK (fo fi fv : Ev) : Sv := fun us h => (fv us h).then us fun v h1 => (fo us h1).then us fun o h2 => (fi us h2).then us fun k h3 => match o with
  | .ref p => (putP p k v h3).then us fun _ h4 => .nx us h4
  | _ => .no
theorem s_dputK (hr : Room kk X.A) (he : PE X e (tE G fe W)) (ho : PE X o (tE G fo W)) (hi : PE X i (tE G fi W))
    (hs : swapsWith e (some (.Subscript o i tpos)) pos.line X.env = pure false := by rfl) : PS X (.Assign [.Subscript o i tpos] e pos) (tS G (gPutK fo fi fe) W) :=
  PS.imp (ps_dput (hu_of hr) ho hi he hs) fun D σ _ ⟨us, w, e, m, sl, h⟩ => by
    subst e
    refine ⟨us, w, rfl, m, sl, (PtS.then m sl h).imp ?_⟩
    rintro v H1 ⟨w1, uv, rfl, e1, m1, r1, sl1, h1⟩
    refine ⟨us, w1, rfl, m1, sl1, (PtS.then (Rel := R G) m1 sl1 h1).imp ?_⟩
    rintro ov H2 ⟨w2, uo, rfl, e2, m2, r2, sl2, h2⟩
    refine ⟨us, w2, rfl, m2, sl2, (PtS.then (Rel := R G) m2 sl2 h2).imp ?_⟩
    rintro iv H3 ⟨w3, ui, rfl, e3, m3, r3, sl3, h3⟩
    have r2 := r2.up m2 e3
    have r1 := r1.up m1 (e2.trans e3)
    split at h3
    · rename_i p0 r2
      cases r2 with
      | @ref _ D1 hr =>
        cases q : putP p0 ui uv w3.h with
        | ok a h' =>
          rw [q] at h3
          obtain ⟨kvs, k, ek, hD, hl, w4, x1, x2, x3, x4⟩ := putP_of m3 hr r3 r1 q
          exact ⟨D1, w4.H, rfl, by rw [ek, x1]; exact .k hD hl, h3 w4 σ x2 x3 x4 (sl3.up m3 x3)⟩
        | ex x h' =>
          unfold putP at q
          split at q
          · split at q <;> cases q
          · cases q
        | no => rw [q] at h3; exact h3.elim
    · exact h3.elim
end
end Fn
/-! own objects: o[k], for x in o -/
namespace Fn
open PySem L2 PySem.Spec PyProof.Rows
/-! ### a def one built-in call deep -/
theorem room1 {k : Nat} {A : Around} (hr : Room (k + 1) A) : Room k A.in1 := by
  obtain ⟨h1, h2, h3⟩ := hr
  refine ⟨h1, ?_, ?_⟩
  · show A.depth + 3 * k + 5 < _
    omega
  · show A.units + 1 + 16 * k + 200 < _
    omega
theorem run_in1 {X : Cx} {pins : List (Addr × Obj)} {σ : L2.St} {H : Hp} {s : Shared} {k : Nat} {f : Addr} {fd : FuncData} {ps : List Str} {sp : Sp} {W : WX} {Q : VK} {us : List Value} {vs : List V} (F : FnOk X.prog X.w X.K X.mg X.base (L2.CX X.prog X.w) k f fd ps sp) (hr : Room (k + 1) X.A) (hb : Binds X.K fd ps []) (tk : Takes X W) (I : Inv X pins σ H s) (r : Vals vs us)
    (h : sp vs H Q (WE W σ)) : wpAny (model X.prog X.w) X.A.in1 (call (.ref f) us) (EP X pins σ Q) X.xe s := by
  have hl : (us ++ []).length = ps.length := by rw [List.append_nil, ← r.length]; exact F.len _ _ _ _ h
  have bd := hb s us I.kIn hl
  rw [List.append_nil] at bd
  have run := F.run X.A.in1 X.stack s H ⟨us, []⟩ us vs Q (WE W σ) (room1 hr) I.env0.in1 bd r h
  refine wpAny_call (codeAny_mono run fun res s' hq => ?_)
  match res, hq with
  | .error e, hq => exact passAt tk σ pins H s e s' I hq
  | .ok (.ret _), hq => exact I.after hq
  | .ok .next, hq => exact hq.elim
  | .ok .brk, hq => exact hq.elim
  | .ok .cont, hq => exact hq.elim
/-! ### o[k] -/
def eGetO (c : Nat) (f : Fg) (fa fb : Ev) : Ev := fun us h => (fa us h).bind fun x h1 => (fb us h1).bind fun y h2 => match isOb c x with
  | true => kG 2 f [x, y] h2
  | false => .no
section
variable {X : Cx} {G : Cfg} {W : WX} {a b e : Expr} {fa fb fe : Ev} {c kk : Nat} {F : Fg} {pos : Pos} {A : Addr} {fd : FuncData} {ps : List Str}
theorem f_getO (d : Dun X.K (G.cl c) "__getitem__" A) (hfi : PySem.W.fnIn X.K A = true) (Fk : FnOk X.prog X.w X.K X.mg X.base (L2.CX X.prog X.w) kk A fd ps (fnG G 2 F)) (hr : Room (kk + 1) X.A) (hb : Binds X.K fd ps []) (tk : Takes X W)
    (ha : PE X a (tE G fa W)) (hb' : PE X b (tE G fb W)) (hsl : ∀ (x : Addr) (i : Value), subscripted b true (.ref x) i = runValue (.builtin "lifetime.subscript" ⟨[.ref x, i], []⟩) := by exact fun _ _ => by with_unfolding_all rfl) :
    PE X (.Subscript a b pos) (tE G (eGetO c F fa fb) W) := by
  refine ⟨fun pins s σ H Q I ⟨us, w, eH, mw, sl, h⟩ => ?_⟩
  subst eH
  have go : tE G fa W σ w.H fun x H1 => tE G fb W σ H1 fun y H2 => ∃ p dx fs, x = .ref p ∧ H2 p = some (.ins (G.cl c) dx fs) ∧ fnG G 2 F [x, y] H2 Q (WE W σ) := by
    refine ⟨us, w, rfl, mw, sl, (Pt.bind (Rel := R G) h).imp ?_⟩
    rintro x H1 ⟨w1, u, rfl, e1, m1, r1, h1⟩
    refine ⟨us, w1, rfl, m1, sl.up mw e1, (Pt.bind (Rel := R G) h1).imp ?_⟩
    rintro y H2 ⟨w2, v, rfl, e2, m2, r2, h2⟩
    have r1 := r1.up m1 e2
    split at h2
    · rename_i q
      obtain ⟨p, dx, fs, rfl, hp⟩ := ob_of r1 q
      exact ⟨p, dx, fs, rfl, hp, kG_pt m2 (.cons r1 (.cons r2 .nil)) h2⟩
    · exact h2.elim
  refine Subscript_ (thn (ha.run pins s σ w.H _ I go) fun o s1 ⟨x, H1, I1, rx, g1⟩ => thn (hb'.run pins s1 σ H1 _ I1 g1) fun i s2 ⟨y, H2, I2, ry, p, dx, fs, ex, hp, z⟩ => ?_)
  subst ex
  cases rx
  obtain ⟨_, J⟩ := ins_at I2 hp
  obtain ⟨_, fr⟩ := I2.fr
  exact PySem.W.sub_K fr I2.mod.kin J d.at_ hfi d.fn (run_in1 (vs := [.ref p, y]) (us := [.ref p, i]) Fk hr hb tk I2 (.cons rfl (.cons ry .nil)) z) (hsl p i)
end
/-! ### iter(t), t a tuple -/
abbrev titObj (t : Addr) (i : Nat) : Obj := { cls := .type "tuple_iterator", data := .fields #[.ref t, .int i 0] }
def TitO (t it : Addr) : HO := .ext fun h => h.get? it = some (titObj t 0)
theorem titO_ok {P : Program} {w : World} {H : Hp} {h : Heap} {t it : Addr} (e : h.get? it = some (titObj t 0)) : ObjOk P w H h it (TitO t it) := ⟨e, ⟨_, e⟩, fun h1 h2 q k => k _ q⟩
def rIterT (K : PySem.W.Frag) (n : Nat) : List V → Hp → VK → Prop := fun xs H Q => ∃ (t : Addr) (zs : List V), xs = [.ref t] ∧ SqT K H t zs ∧ ∀ it, H it = none → n ≤ it → Q (.ref it) (upd H it (TitO t it))
theorem call_iterT {X : Cx} : CallR X (.builtin "iter") (rIterT X.K X.base.objs.size) := by
  intro pins s σ H xs us Q I r h
  obtain ⟨l, zs, rfl, hq, q⟩ := h
  obtain ⟨u, rfl, ru⟩ := vals1 r
  cases ru
  obtain ⟨its, rv, pl, hz⟩ := I.tuple hq
  refine Calls.call_function_entry (by decide +kernel) (by decide +kernel) PySem.W.kdk_entry_iter (PySem.W.kdk_args_iter _) ?_
  unfold Builtin.«iter»
  refine wpAny_bind (m := someArgs "iter" 1 2 _) (wpAny_of_eq (a := [Value.ref l]) (by first | rfl | kernel_rfl!) ?_)
  show wpAny _ _ (pyIter (.ref l) >>= _) _ _ _
  refine wpAny_bind (wpAny_pyIter_tuple (show s.heap.IsTuple l its.toArray from pl) ?_)
  refine wpAny_pure ⟨_, rfl, ?_⟩
  exact ⟨.ref s.heap.objs.size, _, I.laid (t' := s.toks) (fun b u e => Heap.get?_push_of_some _ e) (Nat.le_refl _) (titO_ok (Heap.get?_push_size _ rfl)), rfl, q _ (I.hok.fresh (Nat.le_refl _)) (Nat.le_trans I.ok.bsz I.sz)⟩
/-- what __iter__ promises: an iterator, new, over the tuple in the field -/
def spIt (K : PySem.W.Frag) (C : Addr) (fld : Str) (base : Heap) : Sp := fun vs H Q _ => ∃ (a dx : Addr) (fs : List (Str × V)) (t : Addr) (zs : List V), vs = [.ref a] ∧ H a = some (.ins C dx fs) ∧ fs.lookup fld = some (.ref t) ∧ SqT K H t zs ∧ ∀ it, H it = none → base.objs.size ≤ it → Q (.ref it) (upd H it (TitO t it))
def tIt (K : PySem.W.Frag) (C : Addr) (fld : Str) (n : Nat) : TS := fun D σ H => ∃ (a dx : Addr) (fs : List (Str × V)) (t : Addr) (zs : List V), σ[0]? = some (some (.ref a)) ∧ H a = some (.ins C dx fs) ∧ fs.lookup fld = some (.ref t) ∧ SqT K H t zs ∧ ∀ it, H it = none → n ≤ it → D.rt (.ref it) (upd H it (TitO t it))
theorem ss_it {X : Cx} {C : Addr} {fld self : Str} {p1 p2 p3 p4 p5 : Pos} (c : Cls X.K C) (n : NoAttr X.K C fld) (hg : Gl X "iter") (hm : X.mg "iter" = none) (hN : X.N[0]? = some self) (hv : Vis X.env.scope self) (hd : (self == ("__debug__" : Str)) = false := by decide) (hcd : (self == ("__classdict__" : Str)) = false := by decide)
    (hb : attributeBase (.Name self p2) fld X.env (eval (.Name self p2) X.env) = eval (.Name self p2) X.env := by rfl) (na : starEach [.Attribute (.Name self p2) fld p3] X.env = (false, eval (.Attribute (.Name self p2) fld p3) X.env) :: starEach [] X.env := by rfl) :
    PSs X [.Return (some (.Call (.Name "iter" p1) [.Attribute (.Name self p2) fld p3] [] p4)) p5] (tIt X.K C fld X.base.objs.size) :=
  PSs.imp (pss_one (ps_ret (pe_callB call_iterT hg hm (by decide +kernel) (pa_cons (pe_fld (pe_var (i := 0) hN hv hd hcd) hb) pa_nil na) (he := na)))) fun D σ H ⟨a, dx, fs, t, zs, e1, e2, e3, e4, q⟩ =>
    ⟨_, e1, a, _, dx, _, _, rfl, e2, c, n, e3, t, zs, rfl, e4, q⟩
theorem okIt {P : Program} {w : World} {K : PySem.W.Frag} {mg : Str → Option Value} {x qual fld self : Str} {st : Stmt} {f C : Addr} {fd : FuncData} {N : List Str} (F : Fun K x qual st f fd) (S : FnScope N [self] (defScope st))
    (hbody : ∀ (base : Heap) (cdv : Value) (A : Around) (outer : List Env) (s : Shared) (H : Hp) (E : XK), PSs (cxOf (L2.CX P w) P w K mg base N qual (defScope st) f cdv A outer s H E) (defBody st) (tIt K C fld base.objs.size)) (base : Heap) : FnOk P w K mg base (L2.CX P w) 1 f fd [self] (spIt K C fld base) :=
  F.okX S (fun vs H Q E ⟨a, dx, fs, t, zs, e, _⟩ => by rw [e]; rfl) fun cdv A outer s H vs Q E hr h => by
    obtain ⟨a, dx, fs, t, zs, rfl, e2, e3, e4, q⟩ := h
    exact ⟨_, hbody base cdv A outer s H E, a, dx, fs, t, zs, rfl, e2, e3, e4, q⟩
/-! ### a base as large as the heap -/
def padH (b : Heap) (n : Nat) : Heap := { b with objs := b.objs ++ (List.replicate (n - b.objs.size) (⟨.none, none, .freed, #[]⟩ : Obj)).toArray }
theorem padH_get (b : Heap) (n : Nat) (a : Addr) : (padH b n).get? a = b.get? a := by
  by_cases h : a < b.objs.size
  · have e : (padH b n).objs[a]? = b.objs[a]? := Array.getElem?_append_left h
    unfold Heap.get?
    rw [e]
  · have hle : b.objs.size ≤ a := Nat.le_of_not_lt h
    have e2 : b.objs[a]? = none := Array.getElem?_eq_none hle
    have e1 : (padH b n).objs[a]? = (List.replicate (n - b.objs.size) (⟨.none, none, .freed, #[]⟩ : Obj)).toArray[a - b.objs.size]? := Array.getElem?_append_right hle
    unfold Heap.get?
    rw [e1, e2, List.getElem?_toArray, List.getElem?_replicate]
    by_cases q : a - b.objs.size < n - b.objs.size
    · rw [if_pos q]
    · rw [if_neg q]
theorem padH_size (b : Heap) (n : Nat) (h : b.objs.size ≤ n) : (padH b n).objs.size = n := by
  have e : (padH b n).objs.size = b.objs.size + (List.replicate (n - b.objs.size) (⟨.none, none, .freed, #[]⟩ : Obj)).toArray.size := Array.size_append
  have e2 : ∀ (k : Nat) (x : Obj), (List.replicate k x).toArray.size = k := fun k x => by simp
  rw [e, e2]
  omega
theorem padH_keep (b : Heap) (n : Nat) : ∀ a o, b.get? a = some o → (padH b n).get? a = some o := fun a o e => by rw [padH_get]; exact e
theorem padH_mod {K : PySem.W.Frag} {mg : Str → Option Value} {b : Heap} (m : Mod K mg b) (n : Nat) : Mod K mg (padH b n) := by
  obtain ⟨mb, h1, h2⟩ := m.blt
  obtain ⟨mc, h3, h4⟩ := m.nolimit
  exact ⟨m.kin.keeps (padH_keep b n), m.glob.keeps (padH_keep b n), ⟨mb, h1.keeps (padH_keep b n), h2⟩, ⟨mc, h3.keeps (padH_keep b n), h4⟩⟩
theorem funs_pad {h b : Heap} {n : Nat} : ∀ {l : List Env}, h.FunFrames b l → h.FunFrames (padH b n) l
  | [], _ => trivial
  | _ :: _, ⟨hk, ⟨L, o, hf, hn, ho, hd⟩, hr⟩ => ⟨hk, ⟨L, o, hf, by rw [padH_get]; exact hn, ho, hd⟩, funs_pad hr⟩
theorem env_pad {P : Program} {w : World} {K : PySem.W.Frag} {mg : Str → Option Value} {base : Heap} {A : Around} {outer : List Env} {s : Shared} {H : Hp} (e : Env0 P w K mg base A outer s H) : Env0 P w K mg (padH base s.heap.objs.size) A outer s H :=
  ⟨e.frames, padH_mod e.mod _, fun b o h => e.bs b o (by rw [← padH_get base s.heap.objs.size]; exact h), by rw [padH_size _ _ e.bsz]; exact Nat.le_refl _, funs_pad e.funs, e.frf, e.hok, e.bare⟩
/-! ### for x in o -/
def eOwnI (c j : Nat) (fe : Ev) : EvI := fun us h => (fe us h).bind fun x h1 => match x with
  | .ob d fs => (match Nat.beq d c with
    | true => (match fs[j]? with | some (.tup xs) => .ok (.fix xs) h1 | _ => .no)
    | false => .no)
  | _ => .no
theorem i_own {X : Cx} {G : Cfg} {W : WX} {e tg : Expr} {fe : Ev} {c j : Nat} {fld : Str} {A : Addr} {fd : FuncData} {self : Str} (hK : X.K = G.K) (d : Dun X.K (G.cl c) "__iter__" A) (nd : (G.ly c).Nodup) (hj : (G.ly c)[j]? = some fld)
    (Fk : ∀ base, FnOk X.prog X.w X.K X.mg base (L2.CX X.prog X.w) 1 A fd [self] (spIt X.K (G.cl c) fld base)) (hr : Room 2 X.A) (hb : Binds X.K fd [self] []) (tk : Takes X W) (he : PE X e (tE G fe W)) : PI X tg e (tI G (eOwnI c j fe) W) := by
  refine ⟨fun pins s σ H Rr I ⟨us, w, eH, mw, sl, h⟩ => ?_⟩
  subst eH
  have go : tE G fe W σ w.H fun x H1 => ∃ p dx fs t zs, x = .ref p ∧ H1 p = some (.ins (G.cl c) dx fs) ∧ fs.lookup fld = some (.ref t) ∧ SqT X.K H1 t zs ∧ Rr (Itt X.K t) H1 := by
    refine ⟨us, w, rfl, mw, sl, (Pt.bind (Rel := R G) h).imp ?_⟩
    rintro x H1 ⟨w1, u, rfl, e1, m1, r1, h1⟩
    split at h1
    · rename_i d0 fs
      split at h1
      · rename_i q
        have ec : d0 = c := Nat.eq_of_beq_eq_true q
        subst ec
        split at h1
        · rename_i xs q2
          cases r1 with
          | @ob a dx _ _ vs g1 g2 g3 l =>
            obtain ⟨v, hv, rv⟩ := l.get q2
            cases rv with
            | @tup t _ zs g4 l2 =>
              rw [hK]
              exact ⟨a, dx, _, t, zs, rfl, g1, zip_lookup nd hj hv, g4.1, h1 w1 _ rfl (Ext.refl _) m1 (jr_tup m1 (.tup g4 l2))⟩
        · exact h1.elim
      · exact h1.elim
    · exact h1.elim
  refine thn (he.run pins s σ w.H _ I go) fun v s1 ⟨x, H1, I1, rx, p, dx, fs, t, zs, ex, ea, el, et, hR⟩ => ?_
  subst ex
  cases rx
  obtain ⟨_, J⟩ := ins_at I1 ea
  obtain ⟨_, fr⟩ := I1.fr
  refine PySem.W.owit_iter fr I1.mod.kin J d.at_ d.fn ?_
  let N := s1.heap.objs.size
  have bd := hb s1 [.ref p] I1.kIn rfl
  rw [List.append_nil] at bd
  have run := (Fk (padH X.base N)).run X.A X.stack s1 H1 ⟨[.ref p], []⟩ [.ref p] [.ref p] (fun v H' => ∃ it, v = .ref it ∧ H1 it = none ∧ N ≤ it ∧ H' = upd H1 it (TitO t it)) (WE W σ) (hr.mono (by decide)) (env_pad I1.env0) bd (.cons rfl .nil)
    ⟨p, dx, fs, t, zs, rfl, ea, el, et, fun it h1 h2 => ⟨it, rfl, h1, by rw [padH_size _ _ I1.env0.bsz] at h2; exact h2, rfl⟩⟩
  refine wpAny_call (codeAny_mono run fun res s' hq => ?_)
  match res, hq with
  | .error e, hq => exact passAt tk σ pins H1 s1 e s' I1 hq
  | .ok (.ret u), hq =>
    obtain ⟨v, H', I2, rv, it, ev, n1, n2, eH⟩ := I1.after hq
    subst ev
    subst eH
    cases rv
    have hit : upd H1 it (TitO t it) it = some (TitO t it) := upd_same
    have g : s'.heap.get? it = some (titObj t 0) := (I2.hok it _ hit).1
    have hT : s'.TypeIs (.ref it) "tuple_iterator" := ⟨_, g, rfl⟩
    show PySem.W.OwitIt _ _ _ _ (.ref it) s'
    unfold PySem.W.OwitIt
    refine wpAny_specialOf (name := Str.ofString "__next__") hT PySem.F.slot_tuple_iterator_next.lookup ?_
    have I3 := ItX.inv_drop I2 hit
    have F3 := ItX.inv_fp I2 hit (Nat.le_trans I1.sz n2)
    have eD : ItX.dropH (upd H1 it (TitO t it)) it = H1 := ItX.dropH_upd n1
    rw [eD] at I3 F3
    exact ⟨it, [it], _, _, H1, rfl, I3, turn_tuple t it, ⟨_, g, rfl, rfl⟩, fun b hb => by
      have e : b = it := by simpa using hb
      subst e
      exact F3, hR⟩
  | .ok .next, hq => exact hq.elim
  | .ok .brk, hq => exact hq.elim
  | .ok .cont, hq => exact hq.elim
end Fn
/-! dicts with plain keys: list(d), sorted(d); C(..) with defaults; isinstance(o, int) -/
namespace Fn
open PySem L2 PySem.Spec PyProof.Rows
/-! ### texts in their order -/
def leS (a b : Str) : Bool := !ltCps b.cps.toList a.cps.toList
theorem leS_iff (a b : Str) : leS a b = true ↔ a.cps.toList ≤ b.cps.toList := by
  unfold leS
  rw [ltCps_eq, Bool.not_eq_true', decide_eq_false_iff_not]
  exact List.not_lt
def insS (x : Str) : List Str → List Str
  | [] => [x]
  | y :: r => match leS x y with | true => x :: y :: r | false => y :: insS x r
def sortSt : List Str → List Str
  | [] => []
  | x :: r => insS x (sortSt r)
theorem insS_perm (x : Str) : ∀ l : List Str, (insS x l).Perm (x :: l)
  | [] => .refl _
  | y :: r => by
    unfold insS
    split
    · exact .refl _
    · exact ((insS_perm x r).cons y).trans (.swap x y r)
theorem sortSt_perm : ∀ l : List Str, (sortSt l).Perm l
  | [] => .refl _
  | x :: r => (insS_perm x _).trans ((sortSt_perm r).cons x)
theorem leS_trans {a b c : Str} (h : leS a b = true) (h' : leS b c = true) : leS a c = true := by
  rw [leS_iff] at *
  exact List.le_trans h h'
theorem leS_total {a b : Str} (h : leS a b = false) : leS b a = true := by
  cases q : leS b a with
  | true => rfl
  | false =>
    have h1 : ¬ a.cps.toList ≤ b.cps.toList := fun z => by rw [← leS_iff, h] at z; cases z
    have h2 : ¬ b.cps.toList ≤ a.cps.toList := fun z => by rw [← leS_iff, q] at z; cases z
    rcases List.le_total a.cps.toList b.cps.toList with z | z
    · exact absurd z h1
    · exact absurd z h2
theorem leS_anti {a b : Str} (h : leS a b = true) (h' : leS b a = true) : a = b := by
  rw [leS_iff] at *
  have e := List.le_antisymm h h'
  obtain ⟨x⟩ := a
  obtain ⟨y⟩ := b
  congr 1
  exact Array.toList_inj.mp e
theorem insS_sorted (x : Str) : ∀ l : List Str, l.Pairwise (fun a b => leS a b = true) → (insS x l).Pairwise (fun a b => leS a b = true)
  | [], _ => by simp [insS]
  | y :: r, h => by
    unfold insS
    rw [List.pairwise_cons] at h
    split
    · rename_i q
      refine List.pairwise_cons.mpr ⟨fun z hz => ?_, List.pairwise_cons.mpr h⟩
      rcases List.mem_cons.mp hz with e | e
      · rw [e]; exact q
      · exact leS_trans q (h.1 z e)
    · rename_i q
      refine List.pairwise_cons.mpr ⟨fun z hz => ?_, insS_sorted x r h.2⟩
      rcases List.mem_cons.mp ((insS_perm x r).mem_iff.mp hz) with e | e
      · rw [e]; exact leS_total q
      · exact h.1 z e
theorem sortSt_sorted : ∀ l : List Str, (sortSt l).Pairwise (fun a b => leS a b = true)
  | [] => .nil
  | x :: r => insS_sorted x _ (sortSt_sorted r)
theorem rising_pw : ∀ (l : List Str) (p : Str), risingS p l = true → (p :: l).Pairwise (fun a b => leS a b = true)
  | [], p, _ => by simp
  | x :: r, p, h => by
    have h : (!ltCps x.cps.toList p.cps.toList && risingS x r) = true := by
      unfold risingS at h
      first | exact h | simpa using h
    rw [Bool.and_eq_true] at h
    have ih := rising_pw r x h.2
    refine List.pairwise_cons.mpr ⟨fun z hz => ?_, ih⟩
    rcases List.mem_cons.mp hz with e | e
    · rw [e]; exact h.1
    · exact leS_trans h.1 ((List.pairwise_cons.mp ih).1 z e)
theorem sortSt_one {ys ks : List Str} (hp : ys.Perm ks) (hs : sortedS ys = true) : ys = sortSt ks := by
  have pw : ys.Pairwise (fun a b => leS a b = true) := by
    cases ys with
    | nil => exact .nil
    | cons x r => exact rising_pw r x hs
  exact List.Perm.eq_of_pairwise (fun _ _ _ _ h1 h2 => leS_anti h1 h2) pw (sortSt_sorted ks) (hp.trans (sortSt_perm ks).symm)
/-! ### list(d), sorted(d) -/
def dkKeys (h : List UO) : U → Option (List Key)
  | .ref p => (match h[p]? with | some (.dk kvs) => some (kvs.map (·.1)) | _ => none)
  | _ => none
theorem dkKeys_of {G : Cfg} {w : Wd} (m : Sm G w) {u : U} {v : V} {ks : List Key} (r : R G w u v) (h : dkKeys w.h u = some ks) : ∃ d kvs, v = .ref d ∧ w.H d = some (.dK kvs) ∧ kvs.map (·.1) = ks := by
  cases r with
  | @ref p d hr =>
    have h : (match w.h[p]? with | some (.dk kvs) => some (kvs.map (·.1)) | _ => none) = some ks := h
    split at h
    · rename_i kvs q
      cases h
      cases m.obj _ _ _ hr q with
      | @dk _ ws hv l =>
        refine ⟨d, _, rfl, hv, ?_⟩
        exact List.map_fst_zip (by rw [← l.length, List.length_map, List.length_map]; exact Nat.le_refl _)
    · cases h
  | _ => cases h
def eListDK (fa : EvA) : EvL := fun us h => (fa us h).bind fun xs h1 => match xs with
  | [x] => (match dkKeys h1 x with | some ks => .ok (ks.map keyB) h1 | none => .no)
  | _ => .no
def keysStr : List Key → Option (List Str)
  | [] => some []
  | .inr x :: r => (match keysStr r with | some ys => some (x :: ys) | none => none)
  | _ => none
theorem keysStr_of : ∀ {ks : List Key} {ys : List Str}, keysStr ks = some ys → ks = ys.map Sum.inr
  | [], _, e => by cases e; rfl
  | .inr x :: r, ys, e => by
    unfold keysStr at e
    split at e
    · rename_i zs q
      cases e
      rw [keysStr_of q]; rfl
    · cases e
  | .inl _ :: _, _, e => by cases e
def kSortedDK (xs : List U) (h : List UO) : Rs U := match xs with
  | [x] => (match dkKeys h x with
    | some ks => (match keysStr ks with
      | some ys => (match Nat.blt ys.length 64 with | true => .ok (.fl ((sortSt ys).map U.str)) h | false => .no)
      | none => .no)
    | none => .no)
  | _ => .no
theorem rl_keysB {G : Cfg} {w : Wd} : ∀ ks : List Key, RL G w (ks.map keyB) (ks.map kV)
  | [] => .nil
  | .inl i :: r => .cons (.int i) (rl_keysB r)
  | .inr x :: r => .cons (.str x) (rl_keysB r)
theorem rl_strs {G : Cfg} {w : Wd} : ∀ ys : List Str, RL G w (ys.map U.str) (ys.map V.str)
  | [] => .nil
  | x :: r => .cons (.str x) (rl_strs r)
section
variable {X : Cx} {G : Cfg} {W : WX} {a e : Expr} {es : List Expr} {fa fe : Ev} {fA : EvA} {pos p p2 : Pos} {x : Str}
theorem f_listDK (hc : X.calm = true) (hg : Gl X "list") (hm : X.mg "list" = none) (ha : PA X [e] (tA G fA W)) (he : starEach [e] X.env = (false, eval e X.env) :: starEach [] X.env := by rfl) : PE X (.Call (.Name "list" p) [e] [] pos) (tN G (eListDK fA) W) :=
  PE.imp (pe_callTy (call_listD hc) hg hm (by decide +kernel) ha (he := he)) fun σ _ Q ⟨us, w, e, m, sl, h⟩ => by
    subst e
    refine ⟨us, w, rfl, m, sl, (PtN.bind h).imp ?_⟩
    rintro vs H1 ⟨w1, xs, rfl, e1, m1, r1, h1⟩
    split at h1
    · rename_i x
      obtain ⟨v, rfl, rv⟩ := ob1 (as := []) r1
      split at h1
      · rename_i ks q
        obtain ⟨d, kvs, rfl, hd, rfl⟩ := dkKeys_of m1 rv q
        refine ⟨d, kvs, rfl, .inl hd, fun p hp => newL e1 m1 ?_ rfl h1 hp⟩
        rw [show (kvs.map fun kv => kV kv.1) = (kvs.map (·.1)).map kV by rw [List.map_map]; rfl]
        exact rl_keysB _
      · exact h1.elim
    · exact h1.elim
theorem f_sortedDK (hc : X.calm = true) (hg : Gl X "sorted") (hm : X.mg "sorted" = none) (ha : PA X [e] (tA G fA W)) (he : starEach [e] X.env = (false, eval e X.env) :: starEach [] X.env := by rfl) : PE X (.Call (.Name "sorted" p) [e] [] pos) (tE G (eCall kSortedDK fA) W) :=
  f_callB (call_sortedD hc) (fun w σ W xs vs Q m l h => by
    unfold kSortedDK at h
    split at h
    · rename_i x
      obtain ⟨v, rfl, rv⟩ := ob1 (as := []) l
      split at h
      · rename_i ks q
        split at h
        · rename_i ys q2
          split at h
          · rename_i q3
            obtain ⟨d, kvs, rfl, hd, ek⟩ := dkKeys_of m rv q
            refine ⟨d, kvs, ys, rfl, .inl hd, by rw [ek]; exact keysStr_of q2, Nat.le_of_ble_eq_true q3, fun zs p hp hs hn => ?_⟩
            rw [sortSt_one hp hs]
            exact h.newF m (rl_strs _) hn
          · exact h.elim
        · exact h.elim
      · exact h.elim
    · exact h.elim) hg hm (by decide +kernel) ha (he := he)
/-! ### isinstance(x, T), x perhaps an own object -/
def kIsiX (c : Cty) (ok : Nat → Bool) (x : U) (h : List UO) : Rs U := match x with
  | .ob d _ => (match ok d with | true => .ok (.bl false) h | false => .no)
  | x => kIsi c x h
theorem f_isiX (c : Cty) {T : Str} {ok : Nat → Bool} (hK : X.K = G.K) (hok : ∀ d, ok d = true → InsC X.K (G.cl d) ∧ PySem.W.subIn X.K (.ref (G.cl d)) (.type c.name) = some false) (hmt : PySem.W.kitMeta c.name = true) (hg : Gl X "isinstance") (hm : X.mg "isinstance" = none) (hgT : Gl X T) (hmT : X.mg T = none) (hvT : bootBuiltins T = some (.type c.name)) (ha : PE X a (tE G fa W))
    (hn : T ≠ "__name__" := by decide) (hd : (T == ("__debug__" : Str)) = false := by decide)
    (na : starEach [a, .Name T p2] X.env = (false, eval a X.env) :: starEach [.Name T p2] X.env := by rfl) (nb : starEach [.Name T p2] X.env = (false, eval (.Name T p2) X.env) :: starEach [] X.env := by rfl) (hpl : (backTo pos (starEach [.Name T p2] X.env)).any (·.1) = false := by rfl) :
    PE X (.Call (.Name "isinstance" p) [a, .Name T p2] [] pos) (tE G (e1 (kIsiX c ok) fa) W) :=
  PE.imp (pe_callB (call_isi (X := X)) hg hm (by decide +kernel) (pa_cons ha (pa_cons (pe_bltn (v := .ty c.name) hgT hmT hvT rfl hn hd) pa_nil nb) na) (he := na) (hpl := hpl)) fun σ _ Q ⟨us, w, e, m, sl, h⟩ => by
    subst e
    refine ⟨us, w, rfl, m, sl, (Pt.bind (Rel := R G) h).imp ?_⟩
    rintro v H1 ⟨w1, u, rfl, e1, m1, r1, h1⟩
    have hok' := hK ▸ hok
    rw [hK]
    have go : ∀ {t : String} {b : Bool}, TyX G.K w1.H v (.type t) → L2.kitB t c.name = some b → Q (.bl b) w1.H → rIsi G.K [v, .ty c.name] w1.H Q := fun {t b} ht hk q => ⟨v, _, _, _, b, rfl, .ty _, ht, kit_ty hk, q⟩
    cases r1 with
    | ob g1 g2 g3 l =>
      rename_i d us' vs'
      have h1 : Pt G (R G) W σ w1 (match ok d with | true => .ok (.bl false) w1.h | false => .no) Q := h1
      split at h1
      · rename_i q
        obtain ⟨ic, hs⟩ := hok' d q
        refine ⟨_, _, _, _, false, rfl, .ty _, .base (.ins g1 ic.cl ic.ha ic.hn ic.ht ic.hm), ?_, h1.bl m1⟩
        unfold PySem.W.kitOne PySem.W.kitCls
        rw [if_neg (by simp)]
        show (if PySem.W.kitMeta c.name = true then _ else _) = _
        rw [if_pos hmt]
        exact hs
      · exact h1.elim
    | non => exact go (.base .non) (kitN c) (Pt.bl (b := isiN c) h1 m1)
    | bl x => exact go (.base (.bl x)) (kitBo c) (Pt.bl (b := isiB c) h1 m1)
    | int x => exact go (.base (.int x)) (kitI c) (Pt.bl (b := isiI c) h1 m1)
    | str x => exact go (.base (.str x)) (kitS c) (Pt.bl (b := isiS c) h1 m1)
    | tup g1 l =>
      have h1 : Pt G (R G) W σ w1 (.ok (.bl (isiT c)) w1.h) Q := h1
      refine go ?_ (kitT c) (h1.bl m1)
      rcases g1.1 with (g1 | ⟨o, g1⟩) | ⟨o, its, n, g1, g2, _⟩
      · exact .base (.tup g1)
      · exact .fTuple g1
      · exact .kTuple g1 g2
    | fl g1 g2 l => exact go (.base (.lst g1)) (kitL c) (Pt.bl (b := isiL c) h1 m1)
    | @ref i a g1 =>
      have h1 : Pt G (R G) W σ w1 (match w1.h[i]? with | some (.lst _) => .ok (.bl (isiL c)) w1.h | some (.dk _) => .ok (.bl (isiD c)) w1.h | some (.dt _) => .ok (.bl (isiD c)) w1.h | _ => .no) Q := h1
      split at h1
      · rename_i xs q
        cases m1.obj _ _ _ g1 q with
        | lst g2 l => exact go (.base (.lst g2)) (kitL c) (h1.bl m1)
      · rename_i xs q
        cases m1.obj _ _ _ g1 q with
        | dk g2 l => exact go (.base (.dK g2)) (kitD c) (h1.bl m1)
      · rename_i xs q
        cases m1.obj _ _ _ g1 q with
        | dt g2 l => exact go (.base (.dT g2)) (kitD c) (h1.bl m1)
      · exact h1.elim
    | _ => exact False.elim h1
end
/-! ### C(..), the defaults behind -/
def eDfl (dU : List U) (fa : EvA) : EvA := fun us h => (fa us h).bind fun as h1 => .ok (as ++ dU) h1
section
variable {X : Cx} {G : Cfg} {W : WX} {e : Expr} {es : List Expr} {fA : EvA} {c k kk n : Nat} {fH : Fh} {x : Str} {pos p : Pos} {A : Addr} {fd : FuncData} {ps : List Str} {dU : List U} {dvs : List V} {ds : List Value}
theorem run_mkD {pins : List (Addr × Obj)} {σ : L2.St} {H : Hp} {s : Shared} {C f : Addr} {Q : VK} {us : List Value} {vs : List V} {sp : Sp} (M : Mk X.K C f) (F : FnOk X.prog X.w X.K X.mg X.base (L2.CX X.prog X.w) kk f fd ps sp) (hr : Room (kk + 1) X.A) (hb : Binds X.K fd ps ds) (hd : Vals dvs ds) (tk : Takes X W) (I : Inv X pins σ H s) (r : Vals vs us)
    (h : ∀ x dx, H x = none → H dx = none → dx ≠ x → sp (.ref x :: (vs ++ dvs)) (upd (upd H dx (.own x)) x (.ins C dx [])) (fun v H2 => v = .non ∧ Q (.ref x) H2) (WE W σ)) : wpAny (model X.prog X.w) X.A (call (.ref C) us) (EP X pins σ Q) X.xe s := by
  let n := s.heap.objs.size
  have q := h (n + 1) n (I.hok.fresh (Nat.le_succ n)) (I.hok.fresh (Nat.le_refl n)) (Nat.ne_of_lt (Nat.lt_succ_self n))
  have J := Inv.made (C := C) I
  have rv : Vals (.ref (n + 1) :: (vs ++ dvs)) (.ref (n + 1) :: (us ++ ds)) := .cons rfl (r.append hd)
  have hl : ((Value.ref (n + 1) :: us) ++ ds).length = ps.length := by
    have e := rv.length
    rw [F.len _ _ _ _ q] at e
    exact e.symm
  have bd := hb _ (.ref (n + 1) :: us) J.kIn hl
  have run := F.run _ X.stack _ _ ⟨.ref (n + 1) :: us, []⟩ (.ref (n + 1) :: (us ++ ds)) _ _ (WE W σ) (hr.make C us []) (J.env0.make C us []) bd rv q
  refine wpAny_call (make_map (f := f) I.kIn M.makes M.init (beq_iff_eq.mp M.fn) (codeAny_mono run fun res s' hq => ?_))
  match res, hq with
  | .error e, hq => exact passAt tk σ pins _ _ e s' J hq
  | .ok (.ret u), hq =>
    obtain ⟨v, H', I3, ru, ev, q3⟩ := J.after hq
    subst ev
    exact ⟨ru, .ref (n + 1), H', I3, rfl, q3⟩
  | .ok .next, hq => exact hq.elim
  | .ok .brk, hq => exact hq.elim
  | .ok .cont, hq => exact hq.elim
theorem f_makeD (M : Mk X.K (G.cl c) A) (Fk : FnOk X.prog X.w X.K X.mg X.base (L2.CX X.prog X.w) kk A fd ps (fnH G n fH)) (hr : Room (kk + 1) X.A) (hg : Gl X x) (hm : X.mg x = some (.ref (G.cl c))) (hb : Binds X.K fd ps ds) (hd : Vals dvs ds) (hdU : ∀ w : Wd, RL G w dU dvs) (tk : Takes X W) (hk : (G.ly c).length = k)
    (ha : PA X (e :: es) (tA G fA W)) (hdb : (x == ("__debug__" : Str)) = false := by decide) (he : starEach (e :: es) X.env = (false, eval e X.env) :: starEach es X.env := by rfl) (hpl : (backTo pos (starEach es X.env)).any (·.1) = false := by rfl) :
    PE X (.Call (.Name x p) (e :: es) [] pos) (tE G (eMake c n k fH (eDfl dU fA)) W) := by
  refine ⟨fun pins s σ H Q I ⟨us, w, eH, mw, sl, h⟩ => ?_⟩
  subst eH
  have go : tA G fA W σ w.H fun vs H1 => ∀ y dx, H1 y = none → H1 dx = none → dx ≠ y → fnH G n fH (.ref y :: (vs ++ dvs)) (upd (upd H1 dx (.own y)) y (.ins (G.cl c) dx [])) (fun v H2 => v = .non ∧ Q (.ref y) H2) (WE W σ) := by
    have h : Pt G (R G) W σ w (((fA us w.h).bind fun as h1 => Rs.ok (as ++ dU) h1).bind fun as h1 => match Nat.beq (as.length + 1) n && as.all (pureU 10) with
      | true => (match fH (.ref 0 :: as) [.ins c []] with
        | .ok .non h2 => (match mkU c k h2 with | some u => .ok u h1 | none => .no)
        | .ex ⟨x, []⟩ _ => .ex ⟨x, []⟩ h1
        | _ => .no)
      | false => .no) Q := h
    refine ⟨us, w, rfl, mw, sl, (Pt.bind (Rel := RL G) (Rel' := R G) (Q := Q) (k := fun as h1 => match Nat.beq ((as ++ dU).length + 1) n && (as ++ dU).all (pureU 10) with
      | true => (match fH (.ref 0 :: (as ++ dU)) [.ins c []] with
        | .ok .non h2 => (match mkU c k h2 with | some u => Rs.ok u h1 | none => .no)
        | .ex ⟨x, []⟩ _ => .ex ⟨x, []⟩ h1
        | _ => .no)
      | false => .no) ?_).imp ?_⟩
    · cases q : fA us w.h with
      | ok a h1 => rw [q] at h; exact h
      | ex x h1 => rw [q] at h; exact h
      | no => rw [q] at h; exact h
    · rintro vs H1 ⟨w1, as, rfl, e1, m1, r1, h1⟩
      exact mk_pt m1 (r1.append (hdU w1)) hk h1
  refine wpAny_Call_Name_kw (ld_glob I hg hm ?_ hdb)
  refine PySem.W.callWith_K (h₀ := X.base) I.mod.kin M.kp ?_ he hpl
  exact thn (ha.run pos pins s σ w.H _ I go) fun us s1 ⟨vs, H1, I1, r, q⟩ => ⟨I1.kIn, run_mkD M Fk hr hb hd tk I1 r q⟩
end
end Fn
/-! C(..) of lists that are handed to be read alone -/
namespace Fn
open PySem L2 PySem.Spec PyProof.Rows
/-- no list within; objects may be -/
def plainB : Nat → U → Bool
  | 0, _ => false
  | n + 1, u => match u with
    | .ref _ => false
    | .fl _ => false
    | .tx _ => false
    | .ob _ xs => xs.all (plainB n)
    | .tup xs => xs.all (plainB n)
    | _ => true
section
variable {G : Cfg} {w w' : Wd}
theorem plainB_all {n : Nat} (ih : ∀ (u : U) (v : V), R G w u v → plainB n u = true → R G w' u v) : ∀ {us : List U} {vs : List V}, RL G w us vs → us.all (plainB n) = true → RL G w' us vs
  | _, _, .nil, _ => .nil
  | _, _, .cons r t, e => by
    rw [List.all_cons, Bool.and_eq_true] at e
    exact .cons (ih _ _ r e.1) (plainB_all ih t e.2)
theorem plainB_of (hH : w'.H = w.H) (hz : ∀ a C d f, w'.H a = some (.ins C d f) → ¬ w.Z a → ¬ w'.Z a) : ∀ (n : Nat) (u : U) (v : V), R G w u v → plainB n u = true → R G w' u v
  | 0, _, _, _, e => by cases e
  | n + 1, u, v, r, e => by
    have ih := plainB_of hH hz n
    unfold plainB at e
    cases r with
    | non => exact .non
    | bl b => exact .bl b
    | int b => exact .int b
    | str b => exact .str b
    | ty b => exact .ty b
    | cls c => exact .cls c
    | scr h => exact .scr (hH ▸ h)
    | tup h l => exact .tup (hH ▸ h) (plainB_all ih l e)
    | ob h nz hl l => exact .ob (hH ▸ h) (hz _ _ _ _ (hH ▸ h) nz) hl (plainB_all ih l e)
    | _ => cases e
/-- lists alone are set free -/
theorem frz_ofL (hH : w'.H = w.H) (m : Sm G w) (hz : ∀ a, w'.Z a → w.Z a) (hr : ∀ a xs, w.H a = some (.lst xs) → ¬ w'.Z a) : ∀ (n : Nat) (u u' : U) (v : V), R G w u v → frz n w.h u = some u' → R G w' u' v
  | 0, _, _, _, _, e => by cases e
  | n + 1, u, u', v, r, e => by
    have ih := frz_ofL hH m hz hr n
    unfold frz at e
    cases r with
    | non => cases e; exact .non
    | bl b => cases e; exact .bl b
    | int b => cases e; exact .int b
    | str b => cases e; exact .str b
    | ty b => cases e; exact .ty b
    | cls _ => cases e; exact .cls _
    | scr h => cases e; exact .scr (hH ▸ h)
    | tup h l =>
      dsimp only at e
      split at e
      · rename_i ys q
        cases e
        exact .tup (hH ▸ h) (frz_all ih l q)
      · cases e
    | tx h d l =>
      dsimp only at e
      split at e
      · rename_i ys q
        cases e
        exact .tx (hH ▸ h) d (frz_all ih l q)
      · cases e
    | fl h nz l =>
      dsimp only at e
      split at e
      · rename_i ys q
        cases e
        exact .fl (hH ▸ h) (fun z => nz (hz _ z)) (frz_all ih l q)
      · cases e
    | ob h nz hl l =>
      dsimp only at e
      split at e
      · rename_i ys q
        cases e
        exact .ob (hH ▸ h) (fun z => nz (hz _ z)) hl (frz_all ih l q)
      · cases e
    | @ref i a h =>
      dsimp only at e
      split at e
      · rename_i xs q
        split at e
        · rename_i ys q2
          cases e
          cases m.obj _ _ _ h q with
          | lst h2 l => exact .fl (hH ▸ h2) (hr _ _ h2) (frz_all ih l q2)
        · cases e
      · cases e
end
/-- C(..): the arguments frozen for the call, no list in what comes back -/
def kMakeR (c n k : Nat) (F : Fh) (as : List U) (h : List UO) : Rs U := match mapO (frz 8 h) as with
  | some bs => (match Nat.beq (as.length + 1) n with
    | true => (match F (.ref 0 :: bs) [.ins c []] with
      | .ok .non h2 => (match mkU c k h2 with | some u => (match plainB 10 u with | true => .ok u h | false => .no) | none => .no)
      | .ex ⟨x, []⟩ _ => .ex ⟨x, []⟩ h
      | _ => .no)
    | false => .no)
  | none => .no
def eMakeR (c n k : Nat) (F : Fh) (fa : EvA) : Ev := fun us h => (fa us h).bind (kMakeR c n k F)
theorem mk_ptR {G : Cfg} {W : WX} {σ : L2.St} {w : Wd} {Q : VK} {c n k : Nat} {F : Fh} {as : List U} {vs : List V} (m : Sm G w) (l : RL G w as vs) (hk : (G.ly c).length = k)
    (h : Pt G (R G) W σ w (kMakeR c n k F as w.h) Q) (x dx : Addr) (hx : w.H x = none) (hd : w.H dx = none) (ne : dx ≠ x) :
    fnH G n F (.ref x :: vs) (upd (upd w.H dx (.own x)) x (.ins (G.cl c) dx [])) (fun v H2 => v = .non ∧ Q (.ref x) H2) (WE W σ) := by
  unfold kMakeR at h
  split at h
  case h_2 => exact h.elim
  rename_i bs hbs
  split at h
  case h_2 => exact h.elim
  rename_i hp0
  have hn : (V.ref x :: vs).length = n := by rw [List.length_cons, ← l.length]; exact Nat.eq_of_beq_eq_true hp0
  -- the heap with the new instance
  have hx1 : (w.new dx (.own x)).H x = none := by
    show upd w.H dx (.own x) x = none
    rw [upd_ne (Ne.symm ne)]; exact hx
  let w2 : Wd := (w.new dx (.own x)).newZ x (.ins (G.cl c) dx [])
  have E2 : Ext w w2 := (Ext.new hd).trans (Ext.newZ hx1)
  have m2 : Sm G w2 := (m.new hd).newZ hx1
  have hwx : w2.H x = some (.ins (G.cl c) dx []) := upd_same
  let wm : Wd := ⟨fun a => w2.Z a ∧ ∃ C d f, w2.H a = some (.ins C d f), [x], [.ins c []], w2.H⟩
  have mm : Sm G wm := ⟨rfl, by simp [wm], fun a ha => by rw [List.mem_singleton.mp ha]; exact ⟨.inr rfl, _, _, _, hwx⟩, fun a z => m2.dom a z.1, fun i a o h1 h2 => by
    match i with
    | 0 =>
      cases h1
      cases h2
      exact .ins (vs := []) (by show w2.H x = _; rw [hwx, List.zip_nil_right]) (Nat.zero_le _) .nil
    | i + 1 => simp [wm] at h1⟩
  have zx : ¬ w.Z x := fun z => m.dom x z hx
  have la : RL G wm bs vs := frz_all (w := w2) (w' := wm) (fun u u' v r q => frz_ofL (w := w2) (w' := wm) rfl m2 (fun _ z => z.1) (fun a xs q z => by
    obtain ⟨_, _, _, _, e⟩ := z
    have e : w2.H a = _ := e
    rw [q] at e; cases e) 8 u u' v r q) (l.up m E2) hbs
  have nx : ∀ a o, w.H a = some o → a ≠ x ∧ w2.H a = some o := fun a o q => by
    have h1 : a ≠ x := ne_of_none q hx
    have h2 : a ≠ dx := ne_of_none q hd
    refine ⟨h1, ?_⟩
    show upd (upd w.H dx _) x _ a = _
    rw [upd_ne h1, upd_ne h2]
    exact q
  have back : ∀ w' : Wd, Ext wm w' → Ext w ⟨w.Z, w.r, w.h, w'.H⟩ ∧ Sm G ⟨w.Z, w.r, w.h, w'.H⟩ := fun w' e => by
    have kp : ∀ a o, w.H a = some o → w'.H a = some o := fun a o q => e.keep a o (nx a o q).2 (.inl fun hm => (nx a o q).1 (List.mem_singleton.mp hm))
    have dm : ∀ a, w'.H a = none → w.H a = none := fun a q => by
      cases z : w.H a with
      | none => rfl
      | some o => rw [kp a o z] at q; cases q
    have ex : Ext w ⟨w.Z, w.r, w.h, w'.H⟩ := ⟨⟨[], by simp, by simp⟩, fun a h => .inl h, fun a h => h, fun a o q _ => kp a o q, dm⟩
    exact ⟨ex, m.len, m.nd, m.z, fun a z q => m.dom a z (dm a q), fun i a o h1 h2 => (m.obj i a o h1 h2).up m ex fun b q => kp a b q⟩
  refine ⟨hn, .ref 0 :: bs, wm, rfl, mm, .cons (.ref rfl) la, ?_⟩
  show Pt G (R G) _ [] wm (F (.ref 0 :: bs) [.ins c []]) _
  split at h
  · rename_i h2 hF
    rw [hF]
    split at h
    · rename_i u hu
      split at h
      case h_2 => exact h.elim
      rename_i hpl
      intro w' v eh e m' r
      cases r
      refine ⟨rfl, ?_⟩
      obtain ⟨x1, x2⟩ := back w' e
      have kp : ∀ a o, w.H a = some o → w'.H a = some o := fun a o q => e.keep a o (nx a o q).2 (.inl fun hm => (nx a o q).1 (List.mem_singleton.mp hm))
      refine h ⟨w.Z, w.r, w.h, w'.H⟩ (.ref x) rfl x1 x2 ?_
      let wI : Wd := ⟨fun a => w.Z a ∧ ∃ C d f, w.H a = some (.ins C d f), w.r, w.h, w'.H⟩
      have ri : R G wI u (.ref x) := by
        unfold mkU at hu
        split at hu
        · rename_i d fs q0
          split at hu
          · rename_i qc
            rw [Bool.and_eq_true] at qc
            have qd := Nat.eq_of_beq_eq_true qc.1
            have ql := Nat.eq_of_beq_eq_true qc.2
            subst qd
            split at hu
            · rename_i ys qm
              cases hu
              rw [← eh] at q0 qm
              have hr : w'.r[0]? = some x := e.get (w := wm) rfl
              cases m'.obj 0 x _ hr q0 with
              | @ins _ dx' _ vs' hA hl lf =>
                obtain ⟨nw, en, fn⟩ := e.nw
                have lz : RL G wI ys vs' := frz_all (w := w') (w' := wI) (fun u u' v r q => frz_of (w := w') (w' := wI) rfl m' (fun a z => e.zs a (by
                  obtain ⟨z1, C, d, f, z2⟩ := z
                  exact ⟨.inl z1, C, d, f, (nx a _ z2).2⟩)) (fun a ha z => by
                  obtain ⟨z1, C, d, f, z2⟩ := z
                  rw [en] at ha
                  rcases List.mem_append.mp ha with ha | ha
                  · exact zx (List.mem_singleton.mp ha ▸ z1)
                  · have := fn a ha
                    rw [show wm.H a = some _ from (nx a _ z2).2] at this
                    cases this) 7 u u' v r q) lf qm
                refine .ob hA (fun z => zx z.1) ?_ lz
                rw [← lf.length, ql, hk]
            · cases hu
          · cases hu
        · cases hu
      exact plainB_of (w := wI) (w' := ⟨w.Z, w.r, w.h, w'.H⟩) rfl (fun a C d f q nz z => by
        cases qa : w.H a with
        | none => exact m.dom a z qa
        | some o =>
          have q2 := kp a o qa
          have q : w'.H a = some (.ins C d f) := q
          rw [q2] at q
          cases q
          exact nz ⟨z, C, d, f, qa⟩) 10 u _ ri hpl
    · exact h.elim
  · rename_i xc h2 hF
    rw [hF]
    intro w' cls d eh e m' r
    obtain ⟨x1, x2⟩ := back w' e
    exact h ⟨w.Z, w.r, w.h, w'.H⟩ cls d rfl x1 x2 r
  · exact h.elim
section
variable {X : Cx} {G : Cfg} {W : WX} {e : Expr} {es : List Expr} {fA : EvA} {c k kk n : Nat} {fH : Fh} {x : Str} {pos p : Pos} {A : Addr} {fd : FuncData} {ps : List Str}
theorem f_makeR (M : Mk X.K (G.cl c) A) (Fk : FnOk X.prog X.w X.K X.mg X.base (L2.CX X.prog X.w) kk A fd ps (fnH G n fH)) (hr : Room (kk + 1) X.A) (hg : Gl X x) (hm : X.mg x = some (.ref (G.cl c))) (hb : Binds X.K fd ps []) (tk : Takes X W) (hk : (G.ly c).length = k)
    (ha : PA X (e :: es) (tA G fA W)) (hdb : (x == ("__debug__" : Str)) = false := by decide) (he : starEach (e :: es) X.env = (false, eval e X.env) :: starEach es X.env := by rfl) (hpl : (backTo pos (starEach es X.env)).any (·.1) = false := by rfl) :
    PE X (.Call (.Name x p) (e :: es) [] pos) (tE G (eMakeR c n k fH fA) W) := by
  refine ⟨fun pins s σ H Q I ⟨us, w, eH, mw, sl, h⟩ => ?_⟩
  subst eH
  have go : tA G fA W σ w.H fun vs H1 => ∀ y dx, H1 y = none → H1 dx = none → dx ≠ y → fnH G n fH (.ref y :: vs) (upd (upd H1 dx (.own y)) y (.ins (G.cl c) dx [])) (fun v H2 => v = .non ∧ Q (.ref y) H2) (WE W σ) := by
    refine ⟨us, w, rfl, mw, sl, (Pt.bind (Rel := RL G) h).imp ?_⟩
    rintro vs H1 ⟨w1, as, rfl, e1, m1, r1, h1⟩
    exact mk_ptR m1 r1 hk h1
  refine wpAny_Call_Name_kw (ld_glob I hg hm ?_ hdb)
  refine PySem.W.callWith_K (h₀ := X.base) I.mod.kin M.kp ?_ he hpl
  exact thn (ha.run pos pins s σ w.H _ I go) fun us s1 ⟨vs, H1, I1, r, q⟩ => ⟨I1.kIn, run_mk M Fk hr hb tk I1 r q⟩
end
end Fn
/-! the top, with the bound on the script's bits -/
namespace Fn
open PySem L2 PySem.Spec PyProof.Rows
def topSpB (K : PySem.W.Frag) : Sp := fun vs H Q _ => ∃ (a : Addr) (ns : List Int), vs = [.ref a] ∧ Only H ∧ SqL K H a (ns.map V.int) ∧ ns.length ≤ 63 ∧ (∀ z ∈ ns, Builtin.Int.intBits z ≤ 1048576) ∧ ∀ H', Q (.bl true) H'
theorem bits_lt {z : Int} (h : Builtin.Int.intBits z ≤ 1048576) : Nat.log2 z.natAbs ≤ 1048576 := by
  unfold Builtin.Int.intBits at h
  split at h
  · rename_i q
    have : z.natAbs = 0 := by simpa using q
    rw [this]
    exact Nat.le_trans (by decide) (Nat.zero_le 1048576)
  · omega
theorem ok_topB {P : Program} {w : World} {K : PySem.W.Frag} {mg : Str → Option Value} {base : Heap} {CX : CXT} {k : Nat} {f : Addr} {fd : FuncData} {ps : List Str} {G : Cfg} {F : Fg} (hG : G.K = K) (h : ∀ ns : List Int, ns.length ≤ 63 → (∀ z ∈ ns, Nat.log2 z.natAbs ≤ 1048576) → F [.scr ns] = .ok (.bl true))
    (o : FnOk P w K mg base CX k f fd ps (fnG G 1 F)) : FnOk P w K mg base CX k f fd ps (topSpB K) :=
  o.imp fun vs H Q E ⟨a, ns, e, hO, hS, hl, hb, hq⟩ => by
    subst e
    exact at_topG hG hO hS (h ns hl fun z hz => bits_lt (hb z hz)) hq
end Fn
namespace K83
open PySem PySem.Spec PyProof.Rows L2 Fn
def topS (i : Nat) : Stmt := PySem.Challenge.pw_tablelaws_k83_lines_of_matrices.main.body.getD i (.Pass ⟨0, 0, 0, 0⟩)
abbrev s_Ratio_init : Stmt := L2.inClass (topS 13) 0
theorem sc_Ratio_init : FnScope ["self", "num", "den", "divisor"] ["self", "num", "den"] (defScope s_Ratio_init) := ⟨rfl, rfl, rfl, by decide +kernel, rfl, by decide +kernel, by decide +kernel⟩
abbrev s_Ratio_str : Stmt := L2.inClass (topS 13) 9
theorem sc_Ratio_str : FnScope ["self"] ["self"] (defScope s_Ratio_str) := ⟨rfl, rfl, rfl, by decide +kernel, rfl, by decide +kernel, by decide +kernel⟩
abbrev s_check_size : Stmt := topS 17
theorem sc_check_size : FnScope ["size"] ["size"] (defScope s_check_size) := ⟨rfl, rfl, rfl, by decide +kernel, rfl, by decide +kernel, by decide +kernel⟩
abbrev s_Matrix_getitem : Stmt := L2.inClass (topS 19) 9
theorem sc_Matrix_getitem : FnScope ["self", "at", "row", "column"] ["self", "at"] (defScope s_Matrix_getitem) := ⟨rfl, rfl, rfl, by decide +kernel, rfl, by decide +kernel, by decide +kernel⟩
abbrev s_Matrix_iter : Stmt := L2.inClass (topS 19) 10
theorem sc_Matrix_iter : FnScope ["self"] ["self"] (defScope s_Matrix_iter) := ⟨rfl, rfl, rfl, by decide +kernel, rfl, by decide +kernel, by decide +kernel⟩
abbrev s__law_cell : Stmt := topS 22
theorem sc__law_cell : FnScope ["script", "k"] ["script", "k"] (defScope s__law_cell) := ⟨rfl, rfl, rfl, by decide +kernel, rfl, by decide +kernel, by decide +kernel⟩
abbrev s__law_menu : Stmt := topS 24
theorem sc__law_menu : FnScope ["number", "alphabet", "start", "step", "k"] ["number"] (defScope s__law_menu) := ⟨rfl, rfl, rfl, by decide +kernel, rfl, by decide +kernel, by decide +kernel⟩
abbrev s__law_written : Stmt := topS 25
theorem sc__law_written : FnScope ["num", "den", "one", "other", "turn", "rest"] ["num", "den"] (defScope s__law_written) := ⟨rfl, rfl, rfl, by decide +kernel, rfl, by decide +kernel, by decide +kernel⟩
abbrev s__law_fraction : Stmt := topS 26
theorem sc__law_fraction : FnScope ["number", "way", "side", "wide"] ["number"] (defScope s__law_fraction) := ⟨rfl, rfl, rfl, by decide +kernel, rfl, by decide +kernel, by decide +kernel⟩
abbrev s__law_same_lines : Stmt := topS 30
theorem sc__law_same_lines : FnScope ["told", "due", "at"] ["told", "due"] (defScope s__law_same_lines) := ⟨rfl, rfl, rfl, by decide +kernel, rfl, by decide +kernel, by decide +kernel⟩
abbrev s_matrix_lines : Stmt := topS 3
theorem sc_matrix_lines : FnScope ["matrix", "texts", "widths", "row", "at", "entry", "text", "width"] ["matrix"] (defScope s_matrix_lines) := ⟨rfl, rfl, rfl, by decide +kernel, rfl, by decide +kernel, by decide +kernel⟩
abbrev s_Matrix_init : Stmt := L2.inClass (topS 19) 0
theorem sc_Matrix_init : FnScope ["self", "rows", "made", "row", "entry"] ["self", "rows"] (defScope s_Matrix_init) := ⟨rfl, rfl, rfl, by decide +kernel, rfl, by decide +kernel, by decide +kernel⟩
abbrev s__law_number : Stmt := topS 23
theorem sc__law_number : FnScope ["script", "k", "number"] ["script", "k"] (defScope s__law_number) := ⟨rfl, rfl, rfl, by decide +kernel, rfl, by decide +kernel, by decide +kernel⟩
abbrev s__law_lines : Stmt := topS 29
theorem sc__law_lines : FnScope ["table", "texts", "row", "widths", "lines", "padded", "at", "num", "den"] ["table"] (defScope s__law_lines) := ⟨rfl, rfl, rfl, by decide +kernel, rfl, by decide +kernel, by decide +kernel⟩
abbrev s__law_same_entries : Stmt := topS 31
theorem sc__law_same_entries : FnScope ["matrix", "table", "at", "to", "entry"] ["matrix", "table"] (defScope s__law_same_entries) := ⟨rfl, rfl, rfl, by decide +kernel, rfl, by decide +kernel, by decide +kernel⟩
abbrev s_point_lines : Stmt := topS 4
theorem sc_point_lines : FnScope ["matrices", "lines", "letter"] ["matrices"] (defScope s_point_lines) := ⟨rfl, rfl, rfl, by decide +kernel, rfl, by decide +kernel, by decide +kernel⟩
abbrev s__law_table : Stmt := topS 27
theorem sc__law_table : FnScope ["script", "start", "size", "rows", "at", "to"] ["script", "start", "size"] (defScope s__law_table) := ⟨rfl, rfl, rfl, by decide +kernel, rfl, by decide +kernel, by decide +kernel⟩
abbrev s__law_filled : Stmt := topS 28
theorem sc__law_filled : FnScope ["table", "whole", "rows", "row", "items", "num", "den"] ["table", "whole"] (defScope s__law_filled) := ⟨rfl, rfl, rfl, by decide +kernel, rfl, by decide +kernel, by decide +kernel⟩
abbrev s_law : Stmt := topS 32
theorem sc_law : FnScope ["script", "number", "table", "matrix", "due", "told", "menu", "handed", "tables", "at", "order", "section", "letter"] ["script"] (defScope s_law) := ⟨rfl, rfl, rfl, by decide +kernel, rfl, by decide +kernel, by decide +kernel⟩
structure Facts (K : PySem.W.Frag) (mg : Str → Option Value) where
  z_abs : mg "abs" = none
  z_int : mg "int" = none
  z_isinstance : mg "isinstance" = none
  z_iter : mg "iter" = none
  z_len : mg "len" = none
  z_list : mg "list" = none
  z_max : mg "max" = none
  z_range : mg "range" = none
  z_sorted : mg "sorted" = none
  z_str : mg "str" = none
  z_tuple : mg "tuple" = none
  z_zip : mg "zip" = none
  a_Ratio_init : Addr
  fd_Ratio_init : FuncData
  F_Ratio_init : FunD K "__init__" "Ratio.__init__" (defArgs s_Ratio_init) (defBody s_Ratio_init) (defScope s_Ratio_init) [.int 1] [] a_Ratio_init fd_Ratio_init
  b_Ratio_init : Binds K fd_Ratio_init ["self", "num", "den"] []
  a_Ratio_str : Addr
  fd_Ratio_str : FuncData
  F_Ratio_str : Fun K "__str__" "Ratio.__str__" s_Ratio_str a_Ratio_str fd_Ratio_str
  b_Ratio_str : Binds K fd_Ratio_str ["self"] []
  a_check_size : Addr
  fd_check_size : FuncData
  F_check_size : Fun K "check_size" "check_size" s_check_size a_check_size fd_check_size
  b_check_size : Binds K fd_check_size ["size"] []
  g_check_size : mg "check_size" = some (.ref a_check_size)
  a_Matrix_getitem : Addr
  fd_Matrix_getitem : FuncData
  F_Matrix_getitem : Fun K "__getitem__" "Matrix.__getitem__" s_Matrix_getitem a_Matrix_getitem fd_Matrix_getitem
  b_Matrix_getitem : Binds K fd_Matrix_getitem ["self", "at"] []
  a_Matrix_iter : Addr
  fd_Matrix_iter : FuncData
  F_Matrix_iter : Fun K "__iter__" "Matrix.__iter__" s_Matrix_iter a_Matrix_iter fd_Matrix_iter
  b_Matrix_iter : Binds K fd_Matrix_iter ["self"] []
  a__law_cell : Addr
  fd__law_cell : FuncData
  F__law_cell : Fun K "_law_cell" "_law_cell" s__law_cell a__law_cell fd__law_cell
  b__law_cell : Binds K fd__law_cell ["script", "k"] []
  g__law_cell : mg "_law_cell" = some (.ref a__law_cell)
  a__law_menu : Addr
  fd__law_menu : FuncData
  F__law_menu : Fun K "_law_menu" "_law_menu" s__law_menu a__law_menu fd__law_menu
  b__law_menu : Binds K fd__law_menu ["number"] []
  g__law_menu : mg "_law_menu" = some (.ref a__law_menu)
  a__law_written : Addr
  fd__law_written : FuncData
  F__law_written : Fun K "_law_written" "_law_written" s__law_written a__law_written fd__law_written
  b__law_written : Binds K fd__law_written ["num", "den"] []
  g__law_written : mg "_law_written" = some (.ref a__law_written)
  a__law_fraction : Addr
  fd__law_fraction : FuncData
  F__law_fraction : Fun K "_law_fraction" "_law_fraction" s__law_fraction a__law_fraction fd__law_fraction
  b__law_fraction : Binds K fd__law_fraction ["number"] []
  g__law_fraction : mg "_law_fraction" = some (.ref a__law_fraction)
  a__law_same_lines : Addr
  fd__law_same_lines : FuncData
  F__law_same_lines : Fun K "_law_same_lines" "_law_same_lines" s__law_same_lines a__law_same_lines fd__law_same_lines
  b__law_same_lines : Binds K fd__law_same_lines ["told", "due"] []
  g__law_same_lines : mg "_law_same_lines" = some (.ref a__law_same_lines)
  a_matrix_lines : Addr
  fd_matrix_lines : FuncData
  F_matrix_lines : Fun K "matrix_lines" "matrix_lines" s_matrix_lines a_matrix_lines fd_matrix_lines
  b_matrix_lines : Binds K fd_matrix_lines ["matrix"] []
  g_matrix_lines : mg "matrix_lines" = some (.ref a_matrix_lines)
  a_Matrix_init : Addr
  fd_Matrix_init : FuncData
  F_Matrix_init : Fun K "__init__" "Matrix.__init__" s_Matrix_init a_Matrix_init fd_Matrix_init
  b_Matrix_init : Binds K fd_Matrix_init ["self", "rows"] []
  a__law_number : Addr
  fd__law_number : FuncData
  F__law_number : Fun K "_law_number" "_law_number" s__law_number a__law_number fd__law_number
  b__law_number : Binds K fd__law_number ["script", "k"] []
  g__law_number : mg "_law_number" = some (.ref a__law_number)
  a__law_lines : Addr
  fd__law_lines : FuncData
  F__law_lines : Fun K "_law_lines" "_law_lines" s__law_lines a__law_lines fd__law_lines
  b__law_lines : Binds K fd__law_lines ["table"] []
  g__law_lines : mg "_law_lines" = some (.ref a__law_lines)
  a__law_same_entries : Addr
  fd__law_same_entries : FuncData
  F__law_same_entries : Fun K "_law_same_entries" "_law_same_entries" s__law_same_entries a__law_same_entries fd__law_same_entries
  b__law_same_entries : Binds K fd__law_same_entries ["matrix", "table"] []
  g__law_same_entries : mg "_law_same_entries" = some (.ref a__law_same_entries)
  a_point_lines : Addr
  fd_point_lines : FuncData
  F_point_lines : Fun K "point_lines" "point_lines" s_point_lines a_point_lines fd_point_lines
  b_point_lines : Binds K fd_point_lines ["matrices"] []
  g_point_lines : mg "point_lines" = some (.ref a_point_lines)
  a__law_table : Addr
  fd__law_table : FuncData
  F__law_table : Fun K "_law_table" "_law_table" s__law_table a__law_table fd__law_table
  b__law_table : Binds K fd__law_table ["script", "start", "size"] []
  g__law_table : mg "_law_table" = some (.ref a__law_table)
  a__law_filled : Addr
  fd__law_filled : FuncData
  F__law_filled : Fun K "_law_filled" "_law_filled" s__law_filled a__law_filled fd__law_filled
  b__law_filled : Binds K fd__law_filled ["table", "whole"] []
  g__law_filled : mg "_law_filled" = some (.ref a__law_filled)
  a_law : Addr
  fd_law : FuncData
  F_law : Fun K "law" "law" s_law a_law fd_law
  b_law : Binds K fd_law ["script"] []
  g_law : mg "law" = some (.ref a_law)
  c_TableError : Addr
  x_TableError : XcC K mg "TableError" c_TableError
  c_ZeroDivisor : Addr
  x_ZeroDivisor : XcC K mg "ZeroDivisor" c_ZeroDivisor
  e_ZeroDivisor : PySem.W.excIn K c_ZeroDivisor veB "ValueError.__new__" = true
  c_InvalidNumber : Addr
  x_InvalidNumber : XcC K mg "InvalidNumber" c_InvalidNumber
  c_WrongSize : Addr
  x_WrongSize : XcC K mg "WrongSize" c_WrongSize
  e_WrongSize : PySem.W.excIn K c_WrongSize veB "ValueError.__new__" = true
  c_Ratio : Addr
  g_Ratio : mg "Ratio" = some (.ref c_Ratio)
  oc_Ratio : OwnC K c_Ratio
  mk_Ratio : Mk K c_Ratio a_Ratio_init
  nf_Ratio : PySem.W.notFirst K c_Ratio (.ref c_Ratio) = true
  in_Ratio : InsC K c_Ratio
  na_Ratio_den : NoAttr K c_Ratio "den"
  na_Ratio_num : NoAttr K c_Ratio "num"
  d_Ratio_str : Dun K c_Ratio "__str__" a_Ratio_str
  c_Matrix : Addr
  g_Matrix : mg "Matrix" = some (.ref c_Matrix)
  oc_Matrix : OwnC K c_Matrix
  mk_Matrix : Mk K c_Matrix a_Matrix_init
  nf_Matrix : PySem.W.notFirst K c_Matrix (.ref c_Matrix) = true
  in_Matrix : InsC K c_Matrix
  na_Matrix_rows : NoAttr K c_Matrix "rows"
  na_Matrix_size : NoAttr K c_Matrix "size"
  d_Matrix_getitem : Dun K c_Matrix "__getitem__" a_Matrix_getitem
  d_Matrix_iter : Dun K c_Matrix "__iter__" a_Matrix_iter
  fi_Matrix_getitem : PySem.W.fnIn K a_Matrix_getitem = true
  ds1_Ratio_init : List Value
  vd1_Ratio_init : Vals [.int 1] ds1_Ratio_init
  bd1_Ratio_init : Binds K fd_Ratio_init ["self", "num", "den"] ds1_Ratio_init
  sbt_Ratio_int : PySem.W.subIn K (.ref c_Ratio) (.type "int") = some false
  sbt_Matrix_int : PySem.W.subIn K (.ref c_Matrix) (.type "int") = some false
  g_gcd : mg "gcd" = some (.builtin "math.gcd")
  a_SIZES : Addr
  g_SIZES : mg "SIZES" = some (.ref a_SIZES)
  t_SIZES : ∀ H, SqT K H a_SIZES [.int 1, .int 2, .int 3]
def G0 {K : PySem.W.Frag} {mg : Str → Option Value} (T : Facts K mg) : Cfg := ⟨K, fun i => match i with | 0 => T.c_TableError | 1 => T.c_ZeroDivisor | 2 => T.c_InvalidNumber | 3 => T.c_WrongSize | 4 => T.c_Ratio | 5 => T.c_Matrix | _ => 0, fun i => match i with | 4 => ["num", "den"] | 5 => ["size", "rows"] | _ => [], fun _ => True⟩
theorem nd_Ratio : (["num", "den"] : List Str).Nodup := by decide
theorem nd_Matrix : (["size", "rows"] : List Str).Nodup := by decide
section
variable {P : Program} {w : World} {K : PySem.W.Frag} {mg : Str → Option Value} {base : Heap}
def oks : Nat → Bool := fun d => match d with | 4 => true | 5 => true | _ => false
theorem oks_int_ok (T : Facts K mg) : ∀ d, oks d = true → InsC K ((G0 T).cl d) ∧ PySem.W.subIn K (.ref ((G0 T).cl d)) (.type "int") = some false := fun d h => by
  unfold oks at h
  split at h
  · exact ⟨T.in_Ratio, T.sbt_Ratio_int⟩
  · exact ⟨T.in_Matrix, T.sbt_Matrix_int⟩
  · cases h
def B_Ratio_init : Sv := (gSeq (gIf (bE (e2 kEq (eVar 2) (eC (.int 0)))) (gRaise 1) gNx)
  (gSeq (gSet 3 (eCall kGcd (eCons (eVar 1) (eCons (eVar 2) eNil))))
  (gSeq (gIf (bE (e2 kLt (eVar 2) (eC (.int 0)))) (gSet 3 (e1 kNeg (eVar 3))) gNx)
  (gSeq (gFld 4 0 (eVar 0) (e2 (kI cDivA Int.fdiv) (eVar 1) (eVar 3)))
  (gFld 4 1 (eVar 0) (e2 (kI cDivA Int.fdiv) (eVar 2) (eVar 3)))))))
def F_Ratio_init : Fh := runH 4 B_Ratio_init
theorem ok_Ratio_init (T : Facts K mg) : FnOk P w K mg base (L2.CX P w) 1 T.a_Ratio_init T.fd_Ratio_init ["self", "num", "den"] (fnH (G0 T) 3 F_Ratio_init) :=
  okHD T.F_Ratio_init sc_Ratio_init fun cdv A outer s H E hr W tk => by
  have nd := sc_Ratio_init.nd
  unfold B_Ratio_init
  exact (ss_cons (s_if (t_eq (hr.mono (Nat.zero_le _)) rfl (f_var (i := 2)) f_int) (ss_one (s_raise rfl tk T.x_ZeroDivisor T.e_ZeroDivisor (by rfl))) ss_nil)
  (ss_cons (s_set (i := 3) nd rfl (by first | exact .inl rfl | exact .inr rfl) (f_gcd (by rfl) T.g_gcd (fa_cons (f_var (i := 1)) (fa_cons (f_var (i := 2)) fa_nil))))
  (ss_cons (s_if (t_lt (f_var (i := 2)) f_int) (ss_one (s_set (i := 3) nd rfl (by first | exact .inl rfl | exact .inr rfl) (f_neg (f_var (i := 3))))) ss_nil)
  (ss_cons (s_fld T.oc_Ratio T.na_Ratio_num nd_Ratio rfl (by show 2 ≤ 900; omega) (f_var (i := 0)) (f_fdivA (f_var (i := 1)) (f_var (i := 3))))
  (ss_one (s_fld T.oc_Ratio T.na_Ratio_den nd_Ratio rfl (by show 2 ≤ 900; omega) (f_var (i := 0)) (f_fdivA (f_var (i := 2)) (f_var (i := 3)))))))))
def B_Ratio_str : Sv := (gSeq (gIf (bE (e2 kEq (e1 (kFld 4 1) (eVar 0)) (eC (.int 1)))) (gRet (eCall kStrI (eCons (e1 (kFld 4 0) (eVar 0)) eNil))) gNx)
  (gRet (eJs ((eFmt (e1 (kFld 4 0) (eVar 0))) :: ((eC (.str "/")) :: ((eFmt (e1 (kFld 4 1) (eVar 0))) :: []))) Str.empty)))
def F_Ratio_str : Fg := runG 1 B_Ratio_str
theorem ok_Ratio_str (T : Facts K mg) : FnOk P w K mg base (L2.CX P w) 1 T.a_Ratio_str T.fd_Ratio_str ["self"] (fnG (G0 T) 1 F_Ratio_str) :=
  okG T.F_Ratio_str sc_Ratio_str fun cdv A outer s H E hr W tk => by
  have nd := sc_Ratio_str.nd
  unfold B_Ratio_str
  exact (ss_cons (s_if (t_eq (hr.mono (Nat.zero_le _)) rfl (f_fld rfl T.oc_Ratio T.na_Ratio_den nd_Ratio rfl (f_var (i := 0))) f_int) (ss_one (s_ret (f_strI (by rfl) T.z_str (fa_cons (f_fld rfl T.oc_Ratio T.na_Ratio_num nd_Ratio rfl (f_var (i := 0))) fa_nil)))) ss_nil)
  (ss_one (s_ret (f_joined (.cons (f_fmt (f_fld rfl T.oc_Ratio T.na_Ratio_num nd_Ratio rfl (f_var (i := 0)))) (.cons f_str (.cons (f_fmt (f_fld rfl T.oc_Ratio T.na_Ratio_den nd_Ratio rfl (f_var (i := 0)))) .nil)))))))
def B_check_size : Sv := (gIf (bE (e2 (kIn true) (eVar 0) (eC (.tup [(.int 1), (.int 2), (.int 3)])))) (gRaise 3) gNx)
def F_check_size : Fg := runG 1 B_check_size
theorem ok_check_size (T : Facts K mg) : FnOk P w K mg base (L2.CX P w) 1 T.a_check_size T.fd_check_size ["size"] (fnG (G0 T) 1 F_check_size) :=
  okG T.F_check_size sc_check_size fun cdv A outer s H E hr W tk => by
  have nd := sc_check_size.nd
  unfold B_check_size
  exact (ss_one (s_if (t_notin rfl (f_var (i := 0)) (f_globT (by rfl) T.g_SIZES (fun w => .tup ⟨T.t_SIZES w.H, .inl trivial⟩ (.cons (.int 1) (.cons (.int 2) (.cons (.int 3) .nil)))))) (ss_one (s_raise rfl tk T.x_WrongSize T.e_WrongSize (by rfl))) ss_nil))
def B_Matrix_getitem : Sv := (gSeq (gAsg (aTup (aCons (aName 2) (aCons (aName 3) aNil))) (eVar 1))
  (gRet (e2 kIx (e2 kIx (e1 (kFld 5 1) (eVar 0)) (e2 (kI0 fun i j => i - j) (eVar 2) (eC (.int 1)))) (e2 (kI0 fun i j => i - j) (eVar 3) (eC (.int 1))))))
def F_Matrix_getitem : Fg := runG 4 B_Matrix_getitem
theorem ok_Matrix_getitem (T : Facts K mg) : FnOk P w K mg base (L2.CX P w) 1 T.a_Matrix_getitem T.fd_Matrix_getitem ["self", "at"] (fnG (G0 T) 2 F_Matrix_getitem) :=
  okG T.F_Matrix_getitem sc_Matrix_getitem fun cdv A outer s H E hr W tk => by
  have nd := sc_Matrix_getitem.nd
  unfold B_Matrix_getitem
  exact (ss_cons (s_asg (f_var (i := 1)) (g_tup rfl rfl (gs_cons (g_name (i := 2) nd rfl (by first | exact .inl rfl | exact .inr rfl)) (gs_cons (g_name (i := 3) nd rfl (by first | exact .inl rfl | exact .inr rfl)) gs_nil)) (aCons_len (aCons_len aNil_len))))
  (ss_one (s_ret (f_ix rfl (f_ix rfl (f_fld rfl T.oc_Matrix T.na_Matrix_rows nd_Matrix rfl (f_var (i := 0))) (f_sub (f_var (i := 2)) f_int)) (f_sub (f_var (i := 3)) f_int)))))
theorem ok_Matrix_iter (T : Facts K mg) (base : Heap) : FnOk P w K mg base (L2.CX P w) 1 T.a_Matrix_iter T.fd_Matrix_iter ["self"] (spIt K T.c_Matrix "rows" base) :=
  okIt T.F_Matrix_iter sc_Matrix_iter (fun base cdv A outer s H E => ss_it T.oc_Matrix.cl T.na_Matrix_rows (by rfl) T.z_iter rfl (by first | exact Or.inl rfl | exact Or.inr (Or.inl rfl) | exact Or.inr (Or.inr rfl))) base
def B__law_cell : Sv := (gSeq (gIf (bE (e2 kLt (eVar 1) (eCall kLen (eCons (eVar 0) eNil)))) (gRet (e2 kIx (eVar 0) (eVar 1))) gNx)
  (gRet (e2 kAdd (e2 kAdd (e2 kMulW (eC (.int 17)) (eVar 1)) (e2 kMulW (eC (.int 3)) (eCall kLen (eCons (eVar 0) eNil)))) (eC (.int 1)))))
def F__law_cell : Fg := runG 2 B__law_cell
theorem ok__law_cell (T : Facts K mg) : FnOk P w K mg base (L2.CX P w) 1 T.a__law_cell T.fd__law_cell ["script", "k"] (fnG (G0 T) 2 F__law_cell) :=
  okG T.F__law_cell sc__law_cell fun cdv A outer s H E hr W tk => by
  have nd := sc__law_cell.nd
  unfold B__law_cell
  exact (ss_cons (s_if (t_lt (f_var (i := 1)) (f_len rfl (by rfl) T.z_len (fa_cons (f_var (i := 0)) fa_nil))) (ss_one (s_ret (f_ix rfl (f_var (i := 0)) (f_var (i := 1))))) ss_nil)
  (ss_one (s_ret (f_add rfl (f_add rfl (f_mulW f_int (f_var (i := 1))) (f_mulW f_int (f_len rfl (by rfl) T.z_len (fa_cons (f_var (i := 0)) fa_nil)))) f_int))))
def B__law_menu : Sv := (gSeq (gSet 1 (eC (.str "abcdefghijklmnopqrstuvwxyz")))
  (gSeq (gSet 2 (e2 (kI cMod Int.fmod) (eCall kInt (eCons (eVar 0) eNil)) (eC (.int 26))))
  (gSeq (gSet 3 (e2 kIx (eF (eLst (eCons (eC (.int 1)) (eCons (eC (.int 3)) (eCons (eC (.int 5)) (eCons (eC (.int 7)) (eCons (eC (.int 9)) (eCons (eC (.int 11)) (eCons (eC (.int 15)) (eCons (eC (.int 17)) (eCons (eC (.int 19)) (eCons (eC (.int 21)) (eCons (eC (.int 23)) (eCons (eC (.int 25)) eNil)))))))))))))) (e2 (kI cMod Int.fmod) (eCall kInt (eCons (e2 (kI cDivA Int.fdiv) (eVar 0) (eC (.int 26))) eNil)) (eC (.int 12)))))
  (gRet (eJoin (eC (.str "")) (eF (eLc (ir1 (eC (.int 6))) (aName 4) bYes (e2 kIx (eVar 1) (e2 (kI cMod Int.fmod) (eCall kInt (eCons (e2 kAdd (eVar 2) (e2 kMulW (eVar 3) (eVar 4))) eNil)) (eC (.int 26)))) [4])))))))
def F__law_menu : Fg := runG 5 B__law_menu
theorem ok__law_menu (T : Facts K mg) : FnOk P w K mg base (L2.CX P w) 1 T.a__law_menu T.fd__law_menu ["number"] (fnG (G0 T) 1 F__law_menu) :=
  okG T.F__law_menu sc__law_menu fun cdv A outer s H E hr W tk => by
  have nd := sc__law_menu.nd
  unfold B__law_menu
  exact (ss_cons (s_set (i := 1) nd rfl (by first | exact .inl rfl | exact .inr rfl) f_str)
  (ss_cons (s_set (i := 2) nd rfl (by first | exact .inl rfl | exact .inr rfl) (f_mod (f_intc (by rfl) T.z_int (fa_cons (f_var (i := 0)) fa_nil)) f_int))
  (ss_cons (s_set (i := 3) nd rfl (by first | exact .inl rfl | exact .inr rfl) (f_ix rfl (f_fz (f_lst (fa_cons f_int (fa_cons f_int (fa_cons f_int (fa_cons f_int (fa_cons f_int (fa_cons f_int (fa_cons f_int (fa_cons f_int (fa_cons f_int (fa_cons f_int (fa_cons f_int (fa_cons f_int fa_nil)))))))))))))) (f_mod (f_intc (by rfl) T.z_int (fa_cons (f_fdivA (f_var (i := 0)) f_int) fa_nil)) f_int)))
  (ss_one (s_ret (f_join rfl f_str (f_fz (f_lc (own := [("k", 4)]) (sl := [4]) rfl nd (i_rng1 (by rfl) T.z_range f_int) (blkOk_by (by kernel_rfl)) (fun _ _ _ _ _ => (g_name (i := 4) nd rfl (by first | exact .inl rfl | exact .inr rfl))) (fun _ _ _ _ _ => ts_nil) (fun _ _ _ _ _ => (f_ix rfl (f_var (i := 1)) (f_mod (f_intc (by rfl) T.z_int (fa_cons (f_add rfl (f_var (i := 2)) (f_mulW (f_var (i := 3)) (f_var (i := 4)))) fa_nil)) f_int))) (by decide)))))))))
def B__law_written : Sv := (gSeq (gSet 2 (eCall kAbs (eCons (eVar 0) eNil)))
  (gSeq (gSet 3 (eVar 1))
  (gSeq (gFor (ir1 (eC (.int 400))) (aName 4)
  (gSeq (gIf (bE (e2 kEq (eVar 3) (eC (.int 0)))) gBk gNx)
  (gSeq (gSet 5 (e2 (kI cMod Int.fmod) (eCall kInt (eCons (eVar 2) eNil)) (eVar 3)))
  (gSeq (gSet 2 (eVar 3))
  (gSet 3 (eVar 5))))))
  (gSeq (gIf (bE (e2 kEq (e2 (kI cDivA Int.fdiv) (eVar 1) (eVar 2)) (eC (.int 1)))) (gRet (eCall kStrI (eCons (e2 (kI cDivA Int.fdiv) (eVar 0) (eVar 2)) eNil))) gNx)
  (gRet (e2 kAdd (e2 kAdd (eCall kStrI (eCons (e2 (kI cDivA Int.fdiv) (eVar 0) (eVar 2)) eNil)) (eC (.str "/"))) (eCall kStrI (eCons (e2 (kI cDivA Int.fdiv) (eVar 1) (eVar 2)) eNil))))))))
def F__law_written : Fg := runG 6 B__law_written
theorem ok__law_written (T : Facts K mg) : FnOk P w K mg base (L2.CX P w) 1 T.a__law_written T.fd__law_written ["num", "den"] (fnG (G0 T) 2 F__law_written) :=
  okG T.F__law_written sc__law_written fun cdv A outer s H E hr W tk => by
  have nd := sc__law_written.nd
  unfold B__law_written
  exact (ss_cons (s_set (i := 2) nd rfl (by first | exact .inl rfl | exact .inr rfl) (f_abs (by rfl) T.z_abs (fa_cons (f_var (i := 0)) fa_nil)))
  (ss_cons (s_set (i := 3) nd rfl (by first | exact .inl rfl | exact .inr rfl) (f_var (i := 1)))
  (ss_cons (s_for (passes_of rfl) rfl (i_rng1 (by rfl) T.z_range f_int) (g_name (i := 4) nd rfl (by first | exact .inl rfl | exact .inr rfl))
  (ss_cons (s_if (t_eq (hr.mono (Nat.zero_le _)) rfl (f_var (i := 3)) f_int) (ss_one s_break) ss_nil)
  (ss_cons (s_set (i := 5) nd rfl (by first | exact .inl rfl | exact .inr rfl) (f_mod (f_intc (by rfl) T.z_int (fa_cons (f_var (i := 2)) fa_nil)) (f_var (i := 3))))
  (ss_cons (s_set (i := 2) nd rfl (by first | exact .inl rfl | exact .inr rfl) (f_var (i := 3)))
  (ss_one (s_set (i := 3) nd rfl (by first | exact .inl rfl | exact .inr rfl) (f_var (i := 5))))))))
  (ss_cons (s_if (t_eq (hr.mono (Nat.zero_le _)) rfl (f_fdivA (f_var (i := 1)) (f_var (i := 2))) f_int) (ss_one (s_ret (f_strI (by rfl) T.z_str (fa_cons (f_fdivA (f_var (i := 0)) (f_var (i := 2))) fa_nil)))) ss_nil)
  (ss_one (s_ret (f_add rfl (f_add rfl (f_strI (by rfl) T.z_str (fa_cons (f_fdivA (f_var (i := 0)) (f_var (i := 2))) fa_nil)) f_str) (f_strI (by rfl) T.z_str (fa_cons (f_fdivA (f_var (i := 1)) (f_var (i := 2))) fa_nil)))))))))
def B__law_fraction : Sv := (gSeq (gSet 1 (e2 (kI cMod Int.fmod) (eCall kInt (eCons (eVar 0) eNil)) (eC (.int 7))))
  (gSeq (gSet 0 (e2 (kI cDivA Int.fdiv) (eVar 0) (eC (.int 7))))
  (gSeq (gSet 2 (e2 (kI0 fun i j => i - j) (eC (.int 1)) (e2 kMulW (eC (.int 2)) (e2 (kI cMod Int.fmod) (eCall kInt (eCons (eVar 0) eNil)) (eC (.int 2))))))
  (gSeq (gSet 0 (e2 (kI cDivA Int.fdiv) (eVar 0) (eC (.int 2))))
  (gSeq (gIf (bE (e2 kEq (eVar 1) (eC (.int 0)))) (gRet (eF (eLst (eCons (eC (.int 0)) (eCons (e2 kAdd (eC (.int 1)) (e2 (kI cMod Int.fmod) (eCall kInt (eCons (eVar 0) eNil)) (eC (.int 9)))) eNil))))) gNx)
  (gSeq (gIf (bE (e2 kEq (eVar 1) (eC (.int 1)))) (gRet (eF (eLst (eCons (e2 (kI0 fun i j => i - j) (e2 (kI cMod Int.fmod) (eCall kInt (eCons (eVar 0) eNil)) (eC (.int 23))) (eC (.int 11))) (eCons (eC (.int 1)) eNil))))) gNx)
  (gSeq (gIf (bE (e2 kEq (eVar 1) (eC (.int 2)))) (gRet (eF (eLst (eCons (e2 kMulW (eVar 2) (e2 (kI cMod Int.fmod) (eCall kInt (eCons (eVar 0) eNil)) (eC (.int 120)))) (eCons (e2 kAdd (eC (.int 1)) (e2 (kI cMod Int.fmod) (eCall kInt (eCons (e2 (kI cDivA Int.fdiv) (eVar 0) (eC (.int 120))) eNil)) (eC (.int 12)))) eNil))))) gNx)
  (gSeq (gIf (bE (e2 kEq (eVar 1) (eC (.int 3)))) (gRet (eF (eLst (eCons (e2 kMulW (eVar 2) (e2 (kI cMod Int.fmod) (eCall kInt (eCons (eVar 0) eNil)) (eC (.int 2000003)))) (eCons (e2 kAdd (eC (.int 1)) (e2 (kI cMod Int.fmod) (eCall kInt (eCons (e2 (kI cDivA Int.fdiv) (eVar 0) (eC (.int 2000003))) eNil)) (eC (.int 997)))) eNil))))) gNx)
  (gSeq (gSet 3 (e2 (kI cMod Int.fmod) (eCall kInt (eCons (e2 kAdd (e2 kMulW (e2 kAdd (eVar 0) (eC (.int 3))) (e2 kAdd (e2 (kI cPow fun i j => i ^ j.toNat) (eC (.int 10)) (eC (.int 40))) (eC (.int 7)))) (e2 kMulW (eVar 0) (eVar 0))) eNil)) (e2 (kI cPow fun i j => i ^ j.toNat) (eC (.int 10)) (eC (.int 59)))))
  (gSeq (gIf (bE (e2 kEq (eVar 1) (eC (.int 4)))) (gRet (eF (eLst (eCons (e2 kMulW (eVar 2) (eVar 3)) (eCons (eC (.int 1)) eNil))))) gNx)
  (gSeq (gIf (bE (e2 kEq (eVar 1) (eC (.int 5)))) (gRet (eF (eLst (eCons (e2 kMulW (eVar 2) (e2 kAdd (eC (.int 1)) (e2 (kI cMod Int.fmod) (eCall kInt (eCons (eVar 0) eNil)) (eC (.int 50))))) (eCons (e2 kAdd (eC (.int 1)) (eVar 3)) eNil))))) gNx)
  (gRet (eF (eLst (eCons (e2 kMulW (eVar 2) (eVar 3)) (eCons (e2 kAdd (eC (.int 1)) (e2 (kI cMod Int.fmod) (eCall kInt (eCons (eVar 0) eNil)) (eC (.int 30)))) eNil))))))))))))))))
def F__law_fraction : Fg := runG 4 B__law_fraction
theorem ok__law_fraction (T : Facts K mg) : FnOk P w K mg base (L2.CX P w) 1 T.a__law_fraction T.fd__law_fraction ["number"] (fnG (G0 T) 1 F__law_fraction) :=
  okG T.F__law_fraction sc__law_fraction fun cdv A outer s H E hr W tk => by
  have nd := sc__law_fraction.nd
  unfold B__law_fraction
  exact (ss_cons (s_set (i := 1) nd rfl (by first | exact .inl rfl | exact .inr rfl) (f_mod (f_intc (by rfl) T.z_int (fa_cons (f_var (i := 0)) fa_nil)) f_int))
  (ss_cons (s_set (i := 0) nd rfl (by first | exact .inl rfl | exact .inr rfl) (f_fdivA (f_var (i := 0)) f_int))
  (ss_cons (s_set (i := 2) nd rfl (by first | exact .inl rfl | exact .inr rfl) (f_sub f_int (f_mulW f_int (f_mod (f_intc (by rfl) T.z_int (fa_cons (f_var (i := 0)) fa_nil)) f_int))))
  (ss_cons (s_set (i := 0) nd rfl (by first | exact .inl rfl | exact .inr rfl) (f_fdivA (f_var (i := 0)) f_int))
  (ss_cons (s_if (t_eq (hr.mono (Nat.zero_le _)) rfl (f_var (i := 1)) f_int) (ss_one (s_ret (f_fz (f_lst (fa_cons f_int (fa_cons (f_add rfl f_int (f_mod (f_intc (by rfl) T.z_int (fa_cons (f_var (i := 0)) fa_nil)) f_int)) fa_nil)))))) ss_nil)
  (ss_cons (s_if (t_eq (hr.mono (Nat.zero_le _)) rfl (f_var (i := 1)) f_int) (ss_one (s_ret (f_fz (f_lst (fa_cons (f_sub (f_mod (f_intc (by rfl) T.z_int (fa_cons (f_var (i := 0)) fa_nil)) f_int) f_int) (fa_cons f_int fa_nil)))))) ss_nil)
  (ss_cons (s_if (t_eq (hr.mono (Nat.zero_le _)) rfl (f_var (i := 1)) f_int) (ss_one (s_ret (f_fz (f_lst (fa_cons (f_mulW (f_var (i := 2)) (f_mod (f_intc (by rfl) T.z_int (fa_cons (f_var (i := 0)) fa_nil)) f_int)) (fa_cons (f_add rfl f_int (f_mod (f_intc (by rfl) T.z_int (fa_cons (f_fdivA (f_var (i := 0)) f_int) fa_nil)) f_int)) fa_nil)))))) ss_nil)
  (ss_cons (s_if (t_eq (hr.mono (Nat.zero_le _)) rfl (f_var (i := 1)) f_int) (ss_one (s_ret (f_fz (f_lst (fa_cons (f_mulW (f_var (i := 2)) (f_mod (f_intc (by rfl) T.z_int (fa_cons (f_var (i := 0)) fa_nil)) f_int)) (fa_cons (f_add rfl f_int (f_mod (f_intc (by rfl) T.z_int (fa_cons (f_fdivA (f_var (i := 0)) f_int) fa_nil)) f_int)) fa_nil)))))) ss_nil)
  (ss_cons (s_set (i := 3) nd rfl (by first | exact .inl rfl | exact .inr rfl) (f_mod (f_intc (by rfl) T.z_int (fa_cons (f_add rfl (f_mulW (f_add rfl (f_var (i := 0)) f_int) (f_add rfl (f_pow f_int f_int) f_int)) (f_mulW (f_var (i := 0)) (f_var (i := 0)))) fa_nil)) (f_pow f_int f_int)))
  (ss_cons (s_if (t_eq (hr.mono (Nat.zero_le _)) rfl (f_var (i := 1)) f_int) (ss_one (s_ret (f_fz (f_lst (fa_cons (f_mulW (f_var (i := 2)) (f_var (i := 3))) (fa_cons f_int fa_nil)))))) ss_nil)
  (ss_cons (s_if (t_eq (hr.mono (Nat.zero_le _)) rfl (f_var (i := 1)) f_int) (ss_one (s_ret (f_fz (f_lst (fa_cons (f_mulW (f_var (i := 2)) (f_add rfl f_int (f_mod (f_intc (by rfl) T.z_int (fa_cons (f_var (i := 0)) fa_nil)) f_int))) (fa_cons (f_add rfl f_int (f_var (i := 3))) fa_nil)))))) ss_nil)
  (ss_one (s_ret (f_fz (f_lst (fa_cons (f_mulW (f_var (i := 2)) (f_var (i := 3))) (fa_cons (f_add rfl f_int (f_mod (f_intc (by rfl) T.z_int (fa_cons (f_var (i := 0)) fa_nil)) f_int)) fa_nil)))))))))))))))))
def B__law_same_lines : Sv := (gSeq (gIf (bOr (bNot (bE (e1 (kIsi .lst) (eVar 0)))) (bE (e2 kNe (eCall kLen (eCons (eVar 0) eNil)) (eCall kLen (eCons (eVar 1) eNil))))) (gRet (eC (.bl false))) gNx)
  (gSeq (gFor (ir1 (eCall kLen (eCons (eVar 1) eNil))) (aName 2)
  (gIf (bOr (bNot (bE (e1 (kIsi .str) (e2 kIx (eVar 0) (eVar 2))))) (bE (e2 kNe (e2 kIx (eVar 0) (eVar 2)) (e2 kIx (eVar 1) (eVar 2))))) (gRet (eC (.bl false))) gNx))
  (gRet (eC (.bl true)))))
def F__law_same_lines : Fg := runG 3 B__law_same_lines
theorem ok__law_same_lines (T : Facts K mg) : FnOk P w K mg base (L2.CX P w) 1 T.a__law_same_lines T.fd__law_same_lines ["told", "due"] (fnG (G0 T) 2 F__law_same_lines) :=
  okG T.F__law_same_lines sc__law_same_lines fun cdv A outer s H E hr W tk => by
  have nd := sc__law_same_lines.nd
  unfold B__law_same_lines
  exact (ss_cons (s_if (w_pt (w_or (t_not (t_val (f_isi .lst rfl (by rfl) T.z_isinstance (by rfl) T.z_list (by decide +kernel) (f_var (i := 0))))) (w_or1 (t_ne (hr.mono (Nat.zero_le _)) rfl (f_len rfl (by rfl) T.z_len (fa_cons (f_var (i := 0)) fa_nil)) (f_len rfl (by rfl) T.z_len (fa_cons (f_var (i := 1)) fa_nil)))))) (ss_one (s_ret f_bl)) ss_nil)
  (ss_cons (s_for (passes_of rfl) rfl (i_rng1 (by rfl) T.z_range (f_len rfl (by rfl) T.z_len (fa_cons (f_var (i := 1)) fa_nil))) (g_name (i := 2) nd rfl (by first | exact .inl rfl | exact .inr rfl))
  (ss_one (s_if (w_pt (w_or (t_not (t_val (f_isi .str rfl (by rfl) T.z_isinstance (by rfl) T.z_str (by decide +kernel) (f_ix rfl (f_var (i := 0)) (f_var (i := 2)))))) (w_or1 (t_ne (hr.mono (Nat.zero_le _)) rfl (f_ix rfl (f_var (i := 0)) (f_var (i := 2))) (f_ix rfl (f_var (i := 1)) (f_var (i := 2))))))) (ss_one (s_ret f_bl)) ss_nil)))
  (ss_one (s_ret f_bl))))
def B_matrix_lines : Sv := (gSeq (gSet 1 (eF (eLc (eOwnI 5 1 (eVar 0)) (aName 3) bYes (eF (eLc (eSeq (eVar 3)) (aName 5) bYes (eStrO 4 F_Ratio_str (eCons (eVar 5) eNil)) [5])) [3])))
  (gSeq (gSet 2 (eF (eLc (ir1 (e1 (kFld 5 0) (eVar 0))) (aName 4) bYes (eCall kMax (eCons (eF (eLc (eSeq (eVar 1)) (aName 3) bYes (eCall kLen (eCons (e2 kIx (eVar 3) (eVar 4)) eNil)) [3])) eNil)) [4])))
  (gRet (eT (eLc (eSeq (eVar 1)) (aName 3) bYes (eJoin (eC (.str " ")) (eF (eLc (izip (eCons (eVar 3) (eCons (eVar 2) eNil))) (aTup (aCons (aName 6) (aCons (aName 7) aNil))) bYes (eRj (eVar 6) (eVar 7)) [6, 7]))) [3])))))
def F_matrix_lines : Fh := runH 8 B_matrix_lines
theorem ok_matrix_lines (T : Facts K mg) : FnOk P w K mg base (L2.CX P w) 3 T.a_matrix_lines T.fd_matrix_lines ["matrix"] (fnH (G0 T) 1 F_matrix_lines) :=
  okH T.F_matrix_lines sc_matrix_lines fun cdv A outer s H E hr W tk => by
  have nd := sc_matrix_lines.nd
  unfold B_matrix_lines
  exact (ss_cons (s_set (i := 1) nd rfl (by first | exact .inl rfl | exact .inr rfl) (f_fz (f_lc (own := [("row", 3)]) (sl := [3]) rfl nd (i_own rfl T.d_Matrix_iter nd_Matrix rfl (fun base => ok_Matrix_iter T base) (hr.mono (by decide)) T.b_Matrix_iter tk (f_var (i := 0))) (blkOk_by (by kernel_rfl)) (fun _ _ _ _ _ => (g_name (i := 3) nd rfl (by first | exact .inl rfl | exact .inr rfl))) (fun _ _ _ _ _ => ts_nil) (fun _ _ _ _ _ => (f_fz (f_lc (own := [("entry", 5)]) (sl := [5]) rfl nd (i_seq rfl (f_var (i := 3))) (blkOk_by (by kernel_rfl)) (fun _ _ _ _ _ => (g_name (i := 5) nd rfl (by first | exact .inl rfl | exact .inr rfl))) (fun _ _ _ _ _ => ts_nil) (fun _ _ _ _ _ => (f_strO T.d_Ratio_str (ok_Ratio_str T) (hr.mono (by decide)) T.b_Ratio_str takes0 (by rfl) T.z_str (fa_cons (f_var (i := 5)) fa_nil))) (by decide)))) (by decide))))
  (ss_cons (s_set (i := 2) nd rfl (by first | exact .inl rfl | exact .inr rfl) (f_fz (f_lc (own := [("at", 4)]) (sl := [4]) rfl nd (i_rng1 (by rfl) T.z_range (f_fld rfl T.oc_Matrix T.na_Matrix_size nd_Matrix rfl (f_var (i := 0)))) (blkOk_by (by kernel_rfl)) (fun _ _ _ _ _ => (g_name (i := 4) nd rfl (by first | exact .inl rfl | exact .inr rfl))) (fun _ _ _ _ _ => ts_nil) (fun _ _ _ _ _ => (f_max rfl rfl (by rfl) T.z_max (fa_cons (f_fz (f_lc (own := [("row", 3)]) (sl := [3]) rfl nd (i_seq rfl (f_var (i := 1))) (blkOk_by (by kernel_rfl)) (fun _ _ _ _ _ => (g_name (i := 3) nd rfl (by first | exact .inl rfl | exact .inr rfl))) (fun _ _ _ _ _ => ts_nil) (fun _ _ _ _ _ => (f_len rfl (by rfl) T.z_len (fa_cons (f_ix rfl (f_var (i := 3)) (f_var (i := 4))) fa_nil))) (by decide))) fa_nil))) (by decide))))
  (ss_one (s_ret (f_tr (f_lc (own := [("row", 3)]) (sl := [3]) rfl nd (i_seq rfl (f_var (i := 1))) (blkOk_by (by kernel_rfl)) (fun _ _ _ _ _ => (g_name (i := 3) nd rfl (by first | exact .inl rfl | exact .inr rfl))) (fun _ _ _ _ _ => ts_nil) (fun _ _ _ _ _ => (f_join rfl f_str (f_fz (f_lc (own := [("text", 6), ("width", 7)]) (sl := [6, 7]) rfl nd (i_zip rfl (by rfl) T.z_zip (fa_cons (f_var (i := 3)) (fa_cons (f_var (i := 2)) fa_nil))) (blkOk_by (by kernel_rfl)) (fun _ _ _ _ _ => (g_tup rfl rfl (gs_cons (g_name (i := 6) nd rfl (by first | exact .inl rfl | exact .inr rfl)) (gs_cons (g_name (i := 7) nd rfl (by first | exact .inl rfl | exact .inr rfl)) gs_nil)) (aCons_len (aCons_len aNil_len)))) (fun _ _ _ _ _ => ts_nil) (fun _ _ _ _ _ => (f_rjust (f_var (i := 6)) (f_var (i := 7)))) (by decide))))) (by decide)))))))
def B_Matrix_init : Sv := (gSeq (gEx (eCallG 1 F_check_size (eCons (eCall kLen (eCons (eVar 1) eNil)) eNil)))
  (gSeq (gSet 2 (eT (eLst eNil)))
  (gSeq (gFor (eSeq (eVar 1)) (aName 3)
  (gSeq (gIf (bE (e2 kNe (eCall kLen (eCons (eVar 3) eNil)) (eCall kLen (eCons (eVar 1) eNil)))) (gRaise 3) gNx)
  (gEx (eMt kAppend (eVar 2) (eCons (eCall kTupC (eCons (eF (eLc (eSeq (eVar 3)) (aName 4) bYes (eIf (bE (e1 (kIsiX .int oks) (eVar 4))) (eMake 4 3 2 F_Ratio_init (eDfl [.int 1] (eCons (eVar 4) eNil))) (eVar 4)) [4])) eNil)) eNil)))))
  (gSeq (gFld 5 0 (eVar 0) (eCall kLen (eCons (eVar 1) eNil)))
  (gFld 5 1 (eVar 0) (eCall kTupC (eCons (eVar 2) eNil)))))))
def F_Matrix_init : Fh := runH 5 B_Matrix_init
theorem ok_Matrix_init (T : Facts K mg) : FnOk P w K mg base (L2.CX P w) 3 T.a_Matrix_init T.fd_Matrix_init ["self", "rows"] (fnH (G0 T) 2 F_Matrix_init) :=
  okH T.F_Matrix_init sc_Matrix_init fun cdv A outer s H E hr W tk => by
  have nd := sc_Matrix_init.nd
  unfold B_Matrix_init
  exact (ss_cons (s_expr (f_callG (ok_check_size T) (hr.mono (by decide)) (by rfl) T.g_check_size T.F_check_size.kp T.b_check_size tk (fa_cons (f_len rfl (by rfl) T.z_len (fa_cons (f_var (i := 1)) fa_nil)) fa_nil)))
  (ss_cons (s_set (i := 2) nd rfl (by first | exact .inl rfl | exact .inr rfl) (f_tr (f_lst fa_nil)))
  (ss_cons (s_for (passes_of rfl) rfl (i_seq rfl (f_var (i := 1))) (g_name (i := 3) nd rfl (by first | exact .inl rfl | exact .inr rfl))
  (ss_cons (s_if (t_ne (hr.mono (Nat.zero_le _)) rfl (f_len rfl (by rfl) T.z_len (fa_cons (f_var (i := 3)) fa_nil)) (f_len rfl (by rfl) T.z_len (fa_cons (f_var (i := 1)) fa_nil))) (ss_one (s_raise rfl tk T.x_WrongSize T.e_WrongSize (by rfl))) ss_nil)
  (ss_one (s_expr (f_append rfl (f_var (i := 2)) (fa_cons (f_tupc rfl (by rfl) T.z_tuple (fa_cons (f_fz (f_lc (own := [("entry", 4)]) (sl := [4]) rfl nd (i_seq rfl (f_var (i := 3))) (blkOk_by (by kernel_rfl)) (fun _ _ _ _ _ => (g_name (i := 4) nd rfl (by first | exact .inl rfl | exact .inr rfl))) (fun _ _ _ _ _ => ts_nil) (fun _ _ _ _ _ => (f_if (t_val (f_isiX .int rfl (oks_int_ok T) (by decide +kernel) (by rfl) T.z_isinstance (by rfl) T.z_int (by decide +kernel) (f_var (i := 4)))) (f_makeD T.mk_Ratio (ok_Ratio_init T) (hr.mono (by decide)) (by rfl) T.g_Ratio T.bd1_Ratio_init T.vd1_Ratio_init (fun _ => .cons (.int _) .nil) takes0 rfl (fa_cons (f_var (i := 4)) fa_nil)) (f_var (i := 4)))) (by decide))) fa_nil)) fa_nil))))))
  (ss_cons (s_fld T.oc_Matrix T.na_Matrix_size nd_Matrix rfl (by show 2 ≤ 900; omega) (f_var (i := 0)) (f_len rfl (by rfl) T.z_len (fa_cons (f_var (i := 1)) fa_nil)))
  (ss_one (s_fld T.oc_Matrix T.na_Matrix_rows nd_Matrix rfl (by show 2 ≤ 900; omega) (f_var (i := 0)) (f_tupc rfl (by rfl) T.z_tuple (fa_cons (f_var (i := 2)) fa_nil))))))))
def B__law_number : Sv := (gSeq (gSet 2 (eCall kAbs (eCons (eCallG 2 F__law_cell (eCons (eVar 0) (eCons (eVar 1) eNil))) eNil)))
  (gSeq (gIf (bE (e2 kLt (eVar 2) (e2 (kI cPow fun i j => i ^ j.toNat) (eC (.int 10)) (eC (.int 18))))) (gSeq (gSet 2 (e2 kAdd (e2 kMulW (e2 kAdd (eVar 2) (eC (.int 5))) (e2 kAdd (eVar 2) (eC (.int 48271)))) (e2 kMulW (eC (.int 69621)) (eVar 1))))
  (gSet 2 (e2 kAdd (e2 kMulW (eVar 2) (e2 kAdd (e2 (kI cMod Int.fmod) (eCall kInt (eCons (eVar 2) eNil)) (eC (.int 65537))) (eC (.int 11)))) (e2 (kI cDivA Int.fdiv) (eVar 2) (eC (.int 7)))))) gNx)
  (gRet (eVar 2))))
def F__law_number : Fg := runG 3 B__law_number
theorem ok__law_number (T : Facts K mg) : FnOk P w K mg base (L2.CX P w) 2 T.a__law_number T.fd__law_number ["script", "k"] (fnG (G0 T) 2 F__law_number) :=
  okG T.F__law_number sc__law_number fun cdv A outer s H E hr W tk => by
  have nd := sc__law_number.nd
  unfold B__law_number
  exact (ss_cons (s_set (i := 2) nd rfl (by first | exact .inl rfl | exact .inr rfl) (f_abs (by rfl) T.z_abs (fa_cons (f_callG (ok__law_cell T) (hr.mono (by decide)) (by rfl) T.g__law_cell T.F__law_cell.kp T.b__law_cell tk (fa_cons (f_var (i := 0)) (fa_cons (f_var (i := 1)) fa_nil))) fa_nil)))
  (ss_cons (s_if (t_lt (f_var (i := 2)) (f_pow f_int f_int)) (ss_cons (s_set (i := 2) nd rfl (by first | exact .inl rfl | exact .inr rfl) (f_add rfl (f_mulW (f_add rfl (f_var (i := 2)) f_int) (f_add rfl (f_var (i := 2)) f_int)) (f_mulW f_int (f_var (i := 1)))))
  (ss_one (s_set (i := 2) nd rfl (by first | exact .inl rfl | exact .inr rfl) (f_add rfl (f_mulW (f_var (i := 2)) (f_add rfl (f_mod (f_intc (by rfl) T.z_int (fa_cons (f_var (i := 2)) fa_nil)) f_int) f_int)) (f_fdivA (f_var (i := 2)) f_int))))) ss_nil)
  (ss_one (s_ret (f_var (i := 2))))))
def B__law_lines : Sv := (gSeq (gSet 1 (eT (eLst eNil)))
  (gSeq (gFor (eSeq (eVar 0)) (aName 2)
  (gEx (eMt kAppend (eVar 1) (eCons (eF (eLc (eSeq (eVar 2)) (aLst (aCons (aName 7) (aCons (aName 8) aNil))) bYes (eCallG 2 F__law_written (eCons (eVar 7) (eCons (eVar 8) eNil))) [7, 8])) eNil))))
  (gSeq (gSet 3 (eF (eLc (ir1 (eCall kLen (eCons (eVar 1) eNil))) (aName 6) bYes (eCall kMax (eCons (eF (eLc (eSeq (eVar 1)) (aName 2) bYes (eCall kLen (eCons (e2 kIx (eVar 2) (eVar 6)) eNil)) [2])) eNil)) [6])))
  (gSeq (gSet 4 (eT (eLst eNil)))
  (gSeq (gFor (eSeq (eVar 1)) (aName 2)
  (gSeq (gSet 5 (eT (eLst eNil)))
  (gSeq (gFor (ir1 (eCall kLen (eCons (eVar 2) eNil))) (aName 6)
  (gEx (eMt kAppend (eVar 5) (eCons (e2 kAdd (e2 kMulW (eC (.str " ")) (e2 (kI0 fun i j => i - j) (e2 kIx (eVar 3) (eVar 6)) (eCall kLen (eCons (e2 kIx (eVar 2) (eVar 6)) eNil)))) (e2 kIx (eVar 2) (eVar 6))) eNil))))
  (gEx (eMt kAppend (eVar 4) (eCons (eJoin (eC (.str " ")) (eVar 5)) eNil))))))
  (gRet (eVar 4)))))))
def F__law_lines : Fg := runG 9 B__law_lines
theorem ok__law_lines (T : Facts K mg) : FnOk P w K mg base (L2.CX P w) 2 T.a__law_lines T.fd__law_lines ["table"] (fnG (G0 T) 1 F__law_lines) :=
  okG T.F__law_lines sc__law_lines fun cdv A outer s H E hr W tk => by
  have nd := sc__law_lines.nd
  unfold B__law_lines
  exact (ss_cons (s_set (i := 1) nd rfl (by first | exact .inl rfl | exact .inr rfl) (f_tr (f_lst fa_nil)))
  (ss_cons (s_for (passes_of rfl) rfl (i_seq rfl (f_var (i := 0))) (g_name (i := 2) nd rfl (by first | exact .inl rfl | exact .inr rfl))
  (ss_one (s_expr (f_append rfl (f_var (i := 1)) (fa_cons (f_fz (f_lc (own := [("num", 7), ("den", 8)]) (sl := [7, 8]) rfl nd (i_seq rfl (f_var (i := 2))) (blkOk_by (by kernel_rfl)) (fun _ _ _ _ _ => (g_lst rfl rfl (gs_cons (g_name (i := 7) nd rfl (by first | exact .inl rfl | exact .inr rfl)) (gs_cons (g_name (i := 8) nd rfl (by first | exact .inl rfl | exact .inr rfl)) gs_nil)) (aCons_len (aCons_len aNil_len)))) (fun _ _ _ _ _ => ts_nil) (fun _ _ _ _ _ => (f_callG (ok__law_written T) (hr.mono (by decide)) (by rfl) T.g__law_written T.F__law_written.kp T.b__law_written takes0 (fa_cons (f_var (i := 7)) (fa_cons (f_var (i := 8)) fa_nil)))) (by decide))) fa_nil)))))
  (ss_cons (s_setLcF (i := 3) (own := [("at", 6)]) (sl := [6]) rfl nd rfl rfl (sw_true rfl rfl rfl (by decide +kernel)) (i_rng1 (by rfl) T.z_range (f_len rfl (by rfl) T.z_len (fa_cons (f_var (i := 1)) fa_nil))) (blkOk_by (by kernel_rfl)) (fun _ _ _ _ _ => (g_name (i := 6) nd rfl (by first | exact .inl rfl | exact .inr rfl))) (fun _ _ _ _ _ => ts_nil) (fun _ _ _ _ _ => (f_max rfl rfl (by rfl) T.z_max (fa_cons (f_fz (f_lc (own := [("row", 2)]) (sl := [2]) rfl nd (i_seq rfl (f_var (i := 1))) (blkOk_by (by kernel_rfl)) (fun _ _ _ _ _ => (g_name (i := 2) nd rfl (by first | exact .inl rfl | exact .inr rfl))) (fun _ _ _ _ _ => ts_nil) (fun _ _ _ _ _ => (f_len rfl (by rfl) T.z_len (fa_cons (f_ix rfl (f_var (i := 2)) (f_var (i := 6))) fa_nil))) (by decide))) fa_nil))) (by decide))
  (ss_cons (s_set (i := 4) nd rfl (by first | exact .inl rfl | exact .inr rfl) (f_tr (f_lst fa_nil)))
  (ss_cons (s_for (passes_of rfl) rfl (i_seq rfl (f_var (i := 1))) (g_name (i := 2) nd rfl (by first | exact .inl rfl | exact .inr rfl))
  (ss_cons (s_set (i := 5) nd rfl (by first | exact .inl rfl | exact .inr rfl) (f_tr (f_lst fa_nil)))
  (ss_cons (s_for (passes_of rfl) rfl (i_rng1 (by rfl) T.z_range (f_len rfl (by rfl) T.z_len (fa_cons (f_var (i := 2)) fa_nil))) (g_name (i := 6) nd rfl (by first | exact .inl rfl | exact .inr rfl))
  (ss_one (s_expr (f_append rfl (f_var (i := 5)) (fa_cons (f_add rfl (f_mulW f_str (f_sub (f_ix rfl (f_var (i := 3)) (f_var (i := 6))) (f_len rfl (by rfl) T.z_len (fa_cons (f_ix rfl (f_var (i := 2)) (f_var (i := 6))) fa_nil)))) (f_ix rfl (f_var (i := 2)) (f_var (i := 6)))) fa_nil)))))
  (ss_one (s_expr (f_append rfl (f_var (i := 4)) (fa_cons (f_join rfl f_str (f_var (i := 5))) fa_nil)))))))
  (ss_one (s_ret (f_var (i := 4)))))))))
def B__law_same_entries : Sv := (gSeq (gFor (ir1 (eCall kLen (eCons (eVar 1) eNil))) (aName 2)
  (gFor (ir1 (eCall kLen (eCons (eVar 1) eNil))) (aName 3)
  (gSeq (gSet 4 (eGetO 5 F_Matrix_getitem (eVar 0) (eTup (eCons (e2 kAdd (eVar 2) (eC (.int 1))) (eCons (e2 kAdd (eVar 3) (eC (.int 1))) eNil)))))
  (gIf (bE (e2 kNe (e2 kMulW (e1 (kFld 4 0) (eVar 4)) (e2 kIx (e2 kIx (e2 kIx (eVar 1) (eVar 2)) (eVar 3)) (eC (.int 1)))) (e2 kMulW (e2 kIx (e2 kIx (e2 kIx (eVar 1) (eVar 2)) (eVar 3)) (eC (.int 0))) (e1 (kFld 4 1) (eVar 4))))) (gRet (eC (.bl false))) gNx))))
  (gRet (eC (.bl true))))
def F__law_same_entries : Fg := runG 5 B__law_same_entries
theorem ok__law_same_entries (T : Facts K mg) : FnOk P w K mg base (L2.CX P w) 3 T.a__law_same_entries T.fd__law_same_entries ["matrix", "table"] (fnG (G0 T) 2 F__law_same_entries) :=
  okG T.F__law_same_entries sc__law_same_entries fun cdv A outer s H E hr W tk => by
  have nd := sc__law_same_entries.nd
  unfold B__law_same_entries
  exact (ss_cons (s_for (passes_of rfl) rfl (i_rng1 (by rfl) T.z_range (f_len rfl (by rfl) T.z_len (fa_cons (f_var (i := 1)) fa_nil))) (g_name (i := 2) nd rfl (by first | exact .inl rfl | exact .inr rfl))
  (ss_one (s_for (passes_of rfl) rfl (i_rng1 (by rfl) T.z_range (f_len rfl (by rfl) T.z_len (fa_cons (f_var (i := 1)) fa_nil))) (g_name (i := 3) nd rfl (by first | exact .inl rfl | exact .inr rfl))
  (ss_cons (s_set (i := 4) nd rfl (by first | exact .inl rfl | exact .inr rfl) (f_getO T.d_Matrix_getitem T.fi_Matrix_getitem (ok_Matrix_getitem T) (hr.mono (by decide)) T.b_Matrix_getitem tk (f_var (i := 0)) (f_tup (fa_cons (f_add rfl (f_var (i := 2)) f_int) (fa_cons (f_add rfl (f_var (i := 3)) f_int) fa_nil)))))
  (ss_one (s_if (t_ne (hr.mono (Nat.zero_le _)) rfl (f_mulW (f_fld rfl T.oc_Ratio T.na_Ratio_num nd_Ratio rfl (f_var (i := 4))) (f_ix rfl (f_ix rfl (f_ix rfl (f_var (i := 1)) (f_var (i := 2))) (f_var (i := 3))) f_int)) (f_mulW (f_ix rfl (f_ix rfl (f_ix rfl (f_var (i := 1)) (f_var (i := 2))) (f_var (i := 3))) f_int) (f_fld rfl T.oc_Ratio T.na_Ratio_den nd_Ratio rfl (f_var (i := 4))))) (ss_one (s_ret f_bl)) ss_nil))))))
  (ss_one (s_ret f_bl)))
def B_point_lines : Sv := (gSeq (gSet 1 (eT (eLst eNil)))
  (gSeq (gFor (eSeq (eCall kSortedDK (eCons (eVar 0) eNil))) (aName 2)
  (gSeq (gEx (eMt kAppend (eVar 1) (eCons (e2 kAdd (eVar 2) (eC (.str ":"))) eNil)))
  (gEx (eMt kExtend (eVar 1) (eCons (eCallH 1 F_matrix_lines (eCons (e2 kDget (eVar 0) (eVar 2)) eNil)) eNil)))))
  (gRet (eVar 1))))
def F_point_lines : Fh := runH 3 B_point_lines
theorem ok_point_lines (T : Facts K mg) : FnOk P w K mg base (L2.CX P w) 4 T.a_point_lines T.fd_point_lines ["matrices"] (fnH (G0 T) 1 F_point_lines) :=
  okH T.F_point_lines sc_point_lines fun cdv A outer s H E hr W tk => by
  have nd := sc_point_lines.nd
  unfold B_point_lines
  exact (ss_cons (s_set (i := 1) nd rfl (by first | exact .inl rfl | exact .inr rfl) (f_tr (f_lst fa_nil)))
  (ss_cons (s_for (passes_of rfl) rfl (i_seq rfl (f_sortedDK rfl (by rfl) T.z_sorted (fa_cons (f_var (i := 0)) fa_nil))) (g_name (i := 2) nd rfl (by first | exact .inl rfl | exact .inr rfl))
  (ss_cons (s_expr (f_append rfl (f_var (i := 1)) (fa_cons (f_add rfl (f_var (i := 2)) f_str) fa_nil)))
  (ss_one (s_expr (f_extend rfl (f_var (i := 1)) (fa_cons (f_callH (ok_matrix_lines T) (hr.mono (by decide)) (by rfl) T.g_matrix_lines T.F_matrix_lines.kp T.b_matrix_lines tk (fa_cons (f_dget (hr.mono (Nat.zero_le _)) (f_var (i := 0)) (f_var (i := 2))) fa_nil)) fa_nil))))))
  (ss_one (s_ret (f_var (i := 1))))))
def B__law_table : Sv := (gSeq (gSet 3 (eT (eLst eNil)))
  (gSeq (gFor (ir1 (eVar 2)) (aName 4)
  (gEx (eMt kAppend (eVar 3) (eCons (eF (eLc (ir1 (eVar 2)) (aName 5) bYes (eCallG 1 F__law_fraction (eCons (eCallG 2 F__law_number (eCons (eVar 0) (eCons (e2 kAdd (e2 kAdd (eVar 1) (e2 kMulW (eVar 2) (eVar 4))) (eVar 5)) eNil))) eNil)) [5])) eNil))))
  (gRet (eVar 3))))
def F__law_table : Fg := runG 6 B__law_table
theorem ok__law_table (T : Facts K mg) : FnOk P w K mg base (L2.CX P w) 3 T.a__law_table T.fd__law_table ["script", "start", "size"] (fnG (G0 T) 3 F__law_table) :=
  okG T.F__law_table sc__law_table fun cdv A outer s H E hr W tk => by
  have nd := sc__law_table.nd
  unfold B__law_table
  exact (ss_cons (s_set (i := 3) nd rfl (by first | exact .inl rfl | exact .inr rfl) (f_tr (f_lst fa_nil)))
  (ss_cons (s_for (passes_of rfl) rfl (i_rng1 (by rfl) T.z_range (f_var (i := 2))) (g_name (i := 4) nd rfl (by first | exact .inl rfl | exact .inr rfl))
  (ss_one (s_expr (f_append rfl (f_var (i := 3)) (fa_cons (f_fz (f_lc (own := [("to", 5)]) (sl := [5]) rfl nd (i_rng1 (by rfl) T.z_range (f_var (i := 2))) (blkOk_by (by kernel_rfl)) (fun _ _ _ _ _ => (g_name (i := 5) nd rfl (by first | exact .inl rfl | exact .inr rfl))) (fun _ _ _ _ _ => ts_nil) (fun _ _ _ _ _ => (f_callG (ok__law_fraction T) (hr.mono (by decide)) (by rfl) T.g__law_fraction T.F__law_fraction.kp T.b__law_fraction takes0 (fa_cons (f_callG (ok__law_number T) (hr.mono (by decide)) (by rfl) T.g__law_number T.F__law_number.kp T.b__law_number takes0 (fa_cons (f_var (i := 0)) (fa_cons (f_add rfl (f_add rfl (f_var (i := 1)) (f_mulW (f_var (i := 2)) (f_var (i := 4)))) (f_var (i := 5))) fa_nil))) fa_nil))) (by decide))) fa_nil)))))
  (ss_one (s_ret (f_var (i := 3))))))
def B__law_filled : Sv := (gSeq (gSet 2 (eT (eLst eNil)))
  (gSeq (gFor (eSeq (eVar 0)) (aName 3)
  (gSeq (gSet 4 (eT (eLst eNil)))
  (gSeq (gFor (eSeq (eVar 3)) (aLst (aCons (aName 5) (aCons (aName 6) aNil)))
  (gIf (bAnd (bTru (eVar 1)) (bE (e2 kEq (eVar 6) (eC (.int 1))))) (gEx (eMt kAppend (eVar 4) (eCons (eVar 5) eNil))) (gEx (eMt kAppend (eVar 4) (eCons (eMake 4 3 2 F_Ratio_init (eCons (eVar 5) (eCons (eVar 6) eNil))) eNil)))))
  (gEx (eMt kAppend (eVar 2) (eCons (eVar 4) eNil))))))
  (gRet (eMakeR 5 2 2 F_Matrix_init (eCons (eVar 2) eNil)))))
def F__law_filled : Fg := runG 7 B__law_filled
theorem ok__law_filled (T : Facts K mg) : FnOk P w K mg base (L2.CX P w) 5 T.a__law_filled T.fd__law_filled ["table", "whole"] (fnG (G0 T) 2 F__law_filled) :=
  okG T.F__law_filled sc__law_filled fun cdv A outer s H E hr W tk => by
  have nd := sc__law_filled.nd
  unfold B__law_filled
  exact (ss_cons (s_set (i := 2) nd rfl (by first | exact .inl rfl | exact .inr rfl) (f_tr (f_lst fa_nil)))
  (ss_cons (s_for (passes_of rfl) rfl (i_seq rfl (f_var (i := 0))) (g_name (i := 3) nd rfl (by first | exact .inl rfl | exact .inr rfl))
  (ss_cons (s_set (i := 4) nd rfl (by first | exact .inl rfl | exact .inr rfl) (f_tr (f_lst fa_nil)))
  (ss_cons (s_for (passes_of rfl) rfl (i_seq rfl (f_var (i := 3))) (g_lst rfl rfl (gs_cons (g_name (i := 5) nd rfl (by first | exact .inl rfl | exact .inr rfl)) (gs_cons (g_name (i := 6) nd rfl (by first | exact .inl rfl | exact .inr rfl)) gs_nil)) (aCons_len (aCons_len aNil_len)))
  (ss_one (s_if (w_pt (w_and (t_tru rfl (f_var (i := 1))) (w_and1 (t_eq (hr.mono (Nat.zero_le _)) rfl (f_var (i := 6)) f_int)))) (ss_one (s_expr (f_append rfl (f_var (i := 4)) (fa_cons (f_var (i := 5)) fa_nil)))) (ss_one (s_expr (f_append rfl (f_var (i := 4)) (fa_cons (f_make T.mk_Ratio (ok_Ratio_init T) (hr.mono (by decide)) (by rfl) T.g_Ratio T.b_Ratio_init tk rfl (fa_cons (f_var (i := 5)) (fa_cons (f_var (i := 6)) fa_nil))) fa_nil)))))))
  (ss_one (s_expr (f_append rfl (f_var (i := 2)) (fa_cons (f_var (i := 4)) fa_nil)))))))
  (ss_one (s_ret (f_makeR T.mk_Matrix (ok_Matrix_init T) (hr.mono (by decide)) (by rfl) T.g_Matrix T.b_Matrix_init tk rfl (fa_cons (f_var (i := 2)) fa_nil))))))
def B_law : Sv := (gSeq (gSet 1 (eCallG 2 F__law_number (eCons (eVar 0) (eCons (eC (.int 0)) eNil))))
  (gSeq (gSet 2 (eCallG 3 F__law_table (eCons (eVar 0) (eCons (eC (.int 2)) (eCons (e2 kAdd (eC (.int 1)) (e2 (kI cMod Int.fmod) (eCall kInt (eCons (eVar 1) eNil)) (eC (.int 3)))) eNil)))))
  (gSeq (gSet 3 (eCallG 2 F__law_filled (eCons (eVar 2) (eCons (e2 kEq (e2 (kI cMod Int.fmod) (eCall kInt (eCons (e2 (kI cDivA Int.fdiv) (eVar 1) (eC (.int 3))) eNil)) (eC (.int 2))) (eC (.int 0))) eNil))))
  (gSeq (gSet 4 (eCallG 1 F__law_lines (eCons (eVar 2) eNil)))
  (gSeq (gSet 5 (eCallH 1 F_matrix_lines (eCons (eVar 3) eNil)))
  (gSeq (gIf (bNot (bE (eCallR 2 F__law_same_lines (eCons (eVar 5) (eCons (eVar 4) eNil))))) (gRet (eC (.bl false))) gNx)
  (gSeq (gPut (eVar 5) (eC (.int 0)) (eC (.str "")))
  (gSeq (gEx (eMt kAppend (eVar 5) (eCons (eC (.str "x")) eNil)))
  (gSeq (gIf (bOr (bNot (bE (eCallR 2 F__law_same_lines (eCons (eCallH 1 F_matrix_lines (eCons (eVar 3) eNil)) (eCons (eVar 4) eNil))))) (bNot (bE (eCallG 2 F__law_same_entries (eCons (eVar 3) (eCons (eVar 2) eNil)))))) (gRet (eC (.bl false))) gNx)
  (gSeq (gSet 1 (eCallG 2 F__law_number (eCons (eVar 0) (eCons (eC (.int 1)) eNil))))
  (gSeq (gSet 6 (eT (eListS (eCons (eCallG 1 F__law_menu (eCons (eVar 1) eNil)) eNil))))
  (gSeq (gSet 1 (e2 (kI cDivA Int.fdiv) (eVar 1) (eC (.int 312))))
  (gSeq (gSet 7 eDnewK)
  (gSeq (gSet 8 eDnewK)
  (gSeq (gFor (ir1 (e2 (kI cMod Int.fmod) (eCall kInt (eCons (eVar 1) eNil)) (eC (.int 5)))) (aName 9)
  (gSeq (gSet 12 (eMt kPopAt (eVar 6) (eCons (e2 (kI cMod Int.fmod) (eCall kInt (eCons (e2 (kI cDivA Int.fdiv) (eVar 1) (eC (.int 5))) eNil)) (eCall kLen (eCons (eVar 6) eNil))) eNil)))
  (gSeq (gSet 1 (e2 kAdd (e2 (kI cDivA Int.fdiv) (eVar 1) (eC (.int 5))) (e2 kMulW (eC (.int 3)) (eVar 9))))
  (gSeq (gPutK (eVar 8) (eVar 12) (eCallG 3 F__law_table (eCons (eVar 0) (eCons (e2 kAdd (eC (.int 11)) (e2 kMulW (eC (.int 9)) (eVar 9))) (eCons (e2 kAdd (eC (.int 1)) (e2 (kI cMod Int.fmod) (eCall kInt (eCons (e2 (kI cDivA Int.fdiv) (eVar 1) (eC (.int 6))) eNil)) (eC (.int 3)))) eNil)))))
  (gPutK (eVar 7) (eVar 12) (eCallG 2 F__law_filled (eCons (e2 kDget (eVar 8) (eVar 12)) (eCons (e2 kEq (e2 (kI cMod Int.fmod) (eCall kInt (eCons (eVar 1) eNil)) (eC (.int 2))) (eC (.int 0))) eNil))))))))
  (gSeq (gSet 10 (eF (eListDK (eCons (eVar 7) eNil))))
  (gSeq (gSet 11 (eT (eLst eNil)))
  (gSeq (gFor (eSeq (eCall kSortedDK (eCons (eVar 8) eNil))) (aName 12)
  (gSeq (gEx (eMt kAppend (eVar 11) (eCons (e2 kAdd (eVar 12) (eC (.str ":"))) eNil)))
  (gEx (eMt kExtend (eVar 11) (eCons (eCallG 1 F__law_lines (eCons (e2 kDget (eVar 8) (eVar 12)) eNil)) eNil)))))
  (gSeq (gSet 5 (eCallH 1 F_point_lines (eCons (eVar 7) eNil)))
  (gSeq (gIf (bNot (bE (eCallR 2 F__law_same_lines (eCons (eVar 5) (eCons (eVar 11) eNil))))) (gRet (eC (.bl false))) gNx)
  (gSeq (gEx (eMt kAppend (eVar 5) (eCons (eC (.str "x")) eNil)))
  (gSeq (gPut (eVar 5) (eC (.int 0)) (eC (.str "")))
  (gSeq (gIf (bOr (bNot (bE (eCallR 2 F__law_same_lines (eCons (eCallH 1 F_point_lines (eCons (eVar 7) eNil)) (eCons (eVar 11) eNil))))) (bE (e2 kNe (eF (eListDK (eCons (eVar 7) eNil))) (eVar 10)))) (gRet (eC (.bl false))) gNx)
  (gRet (e2 kEq (eCall kLen (eCons (eF (eLc (eSeq (eVar 10)) (aName 12) (bNot (bE (eCallG 2 F__law_same_entries (eCons (e2 kDget (eVar 7) (eVar 12)) (eCons (e2 kDget (eVar 8) (eVar 12)) eNil))))) (eVar 12) [12])) eNil)) (eC (.int 0)))))))))))))))))))))))))))
def F_law : Fg := runG 13 B_law
theorem ok_law (T : Facts K mg) : FnOk P w K mg base (L2.CX P w) 6 T.a_law T.fd_law ["script"] (fnG (G0 T) 1 F_law) :=
  okG T.F_law sc_law fun cdv A outer s H E hr W tk => by
  have nd := sc_law.nd
  unfold B_law
  exact (ss_cons (s_set (i := 1) nd rfl (by first | exact .inl rfl | exact .inr rfl) (f_callG (ok__law_number T) (hr.mono (by decide)) (by rfl) T.g__law_number T.F__law_number.kp T.b__law_number tk (fa_cons (f_var (i := 0)) (fa_cons f_int fa_nil))))
  (ss_cons (s_set (i := 2) nd rfl (by first | exact .inl rfl | exact .inr rfl) (f_callG (ok__law_table T) (hr.mono (by decide)) (by rfl) T.g__law_table T.F__law_table.kp T.b__law_table tk (fa_cons (f_var (i := 0)) (fa_cons f_int (fa_cons (f_add rfl f_int (f_mod (f_intc (by rfl) T.z_int (fa_cons (f_var (i := 1)) fa_nil)) f_int)) fa_nil)))))
  (ss_cons (s_set (i := 3) nd rfl (by first | exact .inl rfl | exact .inr rfl) (f_callG (ok__law_filled T) (hr.mono (by decide)) (by rfl) T.g__law_filled T.F__law_filled.kp T.b__law_filled tk (fa_cons (f_var (i := 2)) (fa_cons (f_eq (hr.mono (Nat.zero_le _)) rfl (f_mod (f_intc (by rfl) T.z_int (fa_cons (f_fdivA (f_var (i := 1)) f_int) fa_nil)) f_int) f_int) fa_nil))))
  (ss_cons (s_set (i := 4) nd rfl (by first | exact .inl rfl | exact .inr rfl) (f_callG (ok__law_lines T) (hr.mono (by decide)) (by rfl) T.g__law_lines T.F__law_lines.kp T.b__law_lines tk (fa_cons (f_var (i := 2)) fa_nil)))
  (ss_cons (s_set (i := 5) nd rfl (by first | exact .inl rfl | exact .inr rfl) (f_callH (ok_matrix_lines T) (hr.mono (by decide)) (by rfl) T.g_matrix_lines T.F_matrix_lines.kp T.b_matrix_lines tk (fa_cons (f_var (i := 3)) fa_nil)))
  (ss_cons (s_if (t_not (t_val (f_callR (ok__law_same_lines T) (hr.mono (by decide)) (by rfl) T.g__law_same_lines T.F__law_same_lines.kp T.b__law_same_lines tk (fa_cons (f_var (i := 5)) (fa_cons (f_var (i := 4)) fa_nil))))) (ss_one (s_ret f_bl)) ss_nil)
  (ss_cons (s_put f_str (f_var (i := 5)) f_int)
  (ss_cons (s_expr (f_append rfl (f_var (i := 5)) (fa_cons f_str fa_nil)))
  (ss_cons (s_if (w_pt (w_or (t_not (t_val (f_callR (ok__law_same_lines T) (hr.mono (by decide)) (by rfl) T.g__law_same_lines T.F__law_same_lines.kp T.b__law_same_lines tk (fa_cons (f_callH (ok_matrix_lines T) (hr.mono (by decide)) (by rfl) T.g_matrix_lines T.F_matrix_lines.kp T.b_matrix_lines tk (fa_cons (f_var (i := 3)) fa_nil)) (fa_cons (f_var (i := 4)) fa_nil))))) (w_or1 (t_not (t_val (f_callG (ok__law_same_entries T) (hr.mono (by decide)) (by rfl) T.g__law_same_entries T.F__law_same_entries.kp T.b__law_same_entries tk (fa_cons (f_var (i := 3)) (fa_cons (f_var (i := 2)) fa_nil)))))))) (ss_one (s_ret f_bl)) ss_nil)
  (ss_cons (s_set (i := 1) nd rfl (by first | exact .inl rfl | exact .inr rfl) (f_callG (ok__law_number T) (hr.mono (by decide)) (by rfl) T.g__law_number T.F__law_number.kp T.b__law_number tk (fa_cons (f_var (i := 0)) (fa_cons f_int fa_nil))))
  (ss_cons (s_set (i := 6) nd rfl (by first | exact .inl rfl | exact .inr rfl) (f_tr (f_listS rfl (by rfl) T.z_list (fa_cons (f_callG (ok__law_menu T) (hr.mono (by decide)) (by rfl) T.g__law_menu T.F__law_menu.kp T.b__law_menu tk (fa_cons (f_var (i := 1)) fa_nil)) fa_nil))))
  (ss_cons (s_set (i := 1) nd rfl (by first | exact .inl rfl | exact .inr rfl) (f_fdivA (f_var (i := 1)) f_int))
  (ss_cons (s_set (i := 7) nd rfl (by first | exact .inl rfl | exact .inr rfl) f_dnewK)
  (ss_cons (s_set (i := 8) nd rfl (by first | exact .inl rfl | exact .inr rfl) f_dnewK)
  (ss_cons (s_for (passes_of rfl) rfl (i_rng1 (by rfl) T.z_range (f_mod (f_intc (by rfl) T.z_int (fa_cons (f_var (i := 1)) fa_nil)) f_int)) (g_name (i := 9) nd rfl (by first | exact .inl rfl | exact .inr rfl))
  (ss_cons (s_set (i := 12) nd rfl (by first | exact .inl rfl | exact .inr rfl) (f_popAt rfl (f_var (i := 6)) (fa_cons (f_mod (f_intc (by rfl) T.z_int (fa_cons (f_fdivA (f_var (i := 1)) f_int) fa_nil)) (f_len rfl (by rfl) T.z_len (fa_cons (f_var (i := 6)) fa_nil))) fa_nil)))
  (ss_cons (s_set (i := 1) nd rfl (by first | exact .inl rfl | exact .inr rfl) (f_add rfl (f_fdivA (f_var (i := 1)) f_int) (f_mulW f_int (f_var (i := 9)))))
  (ss_cons (s_dputK (hr.mono (Nat.zero_le _)) (f_callG (ok__law_table T) (hr.mono (by decide)) (by rfl) T.g__law_table T.F__law_table.kp T.b__law_table tk (fa_cons (f_var (i := 0)) (fa_cons (f_add rfl f_int (f_mulW f_int (f_var (i := 9)))) (fa_cons (f_add rfl f_int (f_mod (f_intc (by rfl) T.z_int (fa_cons (f_fdivA (f_var (i := 1)) f_int) fa_nil)) f_int)) fa_nil)))) (f_var (i := 8)) (f_var (i := 12)))
  (ss_one (s_dputK (hr.mono (Nat.zero_le _)) (f_callG (ok__law_filled T) (hr.mono (by decide)) (by rfl) T.g__law_filled T.F__law_filled.kp T.b__law_filled tk (fa_cons (f_dget (hr.mono (Nat.zero_le _)) (f_var (i := 8)) (f_var (i := 12))) (fa_cons (f_eq (hr.mono (Nat.zero_le _)) rfl (f_mod (f_intc (by rfl) T.z_int (fa_cons (f_var (i := 1)) fa_nil)) f_int) f_int) fa_nil))) (f_var (i := 7)) (f_var (i := 12))))))))
  (ss_cons (s_set (i := 10) nd rfl (by first | exact .inl rfl | exact .inr rfl) (f_fz (f_listDK rfl (by rfl) T.z_list (fa_cons (f_var (i := 7)) fa_nil))))
  (ss_cons (s_set (i := 11) nd rfl (by first | exact .inl rfl | exact .inr rfl) (f_tr (f_lst fa_nil)))
  (ss_cons (s_for (passes_of rfl) rfl (i_seq rfl (f_sortedDK rfl (by rfl) T.z_sorted (fa_cons (f_var (i := 8)) fa_nil))) (g_name (i := 12) nd rfl (by first | exact .inl rfl | exact .inr rfl))
  (ss_cons (s_expr (f_append rfl (f_var (i := 11)) (fa_cons (f_add rfl (f_var (i := 12)) f_str) fa_nil)))
  (ss_one (s_expr (f_extend rfl (f_var (i := 11)) (fa_cons (f_callG (ok__law_lines T) (hr.mono (by decide)) (by rfl) T.g__law_lines T.F__law_lines.kp T.b__law_lines tk (fa_cons (f_dget (hr.mono (Nat.zero_le _)) (f_var (i := 8)) (f_var (i := 12))) fa_nil)) fa_nil))))))
  (ss_cons (s_set (i := 5) nd rfl (by first | exact .inl rfl | exact .inr rfl) (f_callH (ok_point_lines T) (hr.mono (by decide)) (by rfl) T.g_point_lines T.F_point_lines.kp T.b_point_lines tk (fa_cons (f_var (i := 7)) fa_nil)))
  (ss_cons (s_if (t_not (t_val (f_callR (ok__law_same_lines T) (hr.mono (by decide)) (by rfl) T.g__law_same_lines T.F__law_same_lines.kp T.b__law_same_lines tk (fa_cons (f_var (i := 5)) (fa_cons (f_var (i := 11)) fa_nil))))) (ss_one (s_ret f_bl)) ss_nil)
  (ss_cons (s_expr (f_append rfl (f_var (i := 5)) (fa_cons f_str fa_nil)))
  (ss_cons (s_put f_str (f_var (i := 5)) f_int)
  (ss_cons (s_if (w_pt (w_or (t_not (t_val (f_callR (ok__law_same_lines T) (hr.mono (by decide)) (by rfl) T.g__law_same_lines T.F__law_same_lines.kp T.b__law_same_lines tk (fa_cons (f_callH (ok_point_lines T) (hr.mono (by decide)) (by rfl) T.g_point_lines T.F_point_lines.kp T.b_point_lines tk (fa_cons (f_var (i := 7)) fa_nil)) (fa_cons (f_var (i := 11)) fa_nil))))) (w_or1 (t_ne (hr.mono (Nat.zero_le _)) rfl (f_fz (f_listDK rfl (by rfl) T.z_list (fa_cons (f_var (i := 7)) fa_nil))) (f_var (i := 10)))))) (ss_one (s_ret f_bl)) ss_nil)
  (ss_one (s_ret (f_eq (hr.mono (Nat.zero_le _)) rfl (f_len rfl (by rfl) T.z_len (fa_cons (f_fz (f_lc (own := [("letter", 12)]) (sl := [12]) rfl nd (i_seq rfl (f_var (i := 10))) (blkOk_by (by kernel_rfl)) (fun _ _ _ _ _ => (g_name (i := 12) nd rfl (by first | exact .inl rfl | exact .inr rfl))) (fun _ _ _ _ _ => (ts_one (t_not (t_val (f_callG (ok__law_same_entries T) (hr.mono (by decide)) (by rfl) T.g__law_same_entries T.F__law_same_entries.kp T.b__law_same_entries takes0 (fa_cons (f_dget (hr.mono (Nat.zero_le _)) (f_var (i := 7)) (f_var (i := 12))) (fa_cons (f_dget (hr.mono (Nat.zero_le _)) (f_var (i := 8)) (f_var (i := 12))) fa_nil))))))) (fun _ _ _ _ _ => (f_var (i := 12))) (by decide))) fa_nil)) f_int))))))))))))))))))))))))))
end
theorem all_mk (ht : ∀ ns, ns.length ≤ 63 → (∀ z ∈ ns, Nat.log2 z.natAbs ≤ 1048576) → F_law [.scr ns] = .ok (.bl true)) {l : PySem.W.OpenLaw} {w : World} {K : PySem.W.Frag} {h : Heap} {mg : Str → Option Value} {fa : Addr} (X : K.In h) (G : h.Ns mainGlobals mg) (hfa : mg "law" = some (.ref fa))
    {f_Ratio : Addr} (n_Ratio : PySem.W.nsIn K mainGlobals "Ratio" = some (some (.ref f_Ratio)))
    {f_Matrix : Addr} (n_Matrix : PySem.W.nsIn K mainGlobals "Matrix" = some (some (.ref f_Matrix)))
    {f_Ratio_init : Addr} {od_Ratio_init an_Ratio_init : Option Addr} {sl_Ratio_init : Array (Option Value)} {oc_Ratio_init kV_Ratio_init dc_Ratio_init pm_Ratio_init cd_Ratio_init ct_Ratio_init : Value}
    (a_Ratio_init : PySem.W.findIn K (.ref f_Ratio) "__init__" = some (some (.ref f_Ratio_init))) (fn_Ratio_init : PySem.W.isFn K (.ref f_Ratio_init) = true)
    {dT_Ratio_init : Addr} {odT_Ratio_init : Option Addr} {nT_Ratio_init : Nat} {slT_Ratio_init : Array (Option Value)} {tT0_Ratio_init : Tok}
    (l_Ratio_init : K.lookup f_Ratio_init = some ⟨oc_Ratio_init, od_Ratio_init, .func (PySem.W.fnOf "__init__" "Ratio.__init__" (defArgs s_Ratio_init) (defBody s_Ratio_init) (defScope s_Ratio_init) (.ref dT_Ratio_init) kV_Ratio_init dc_Ratio_init pm_Ratio_init an_Ratio_init cd_Ratio_init ct_Ratio_init), sl_Ratio_init⟩) (c_Ratio_init : PySem.W.codeIn K cd_Ratio_init "Ratio.__init__" = true) (k_Ratio_init : PySem.W.keepIn K (.ref f_Ratio_init) = true)
    (dt_Ratio_init : K.lookup dT_Ratio_init = some ⟨.type "tuple", odT_Ratio_init, .seq #[.int 1 tT0_Ratio_init] nT_Ratio_init, slT_Ratio_init⟩)
    {f_Ratio_str : Addr} {od_Ratio_str an_Ratio_str : Option Addr} {sl_Ratio_str : Array (Option Value)} {oc_Ratio_str kV_Ratio_str dc_Ratio_str pm_Ratio_str cd_Ratio_str ct_Ratio_str : Value}
    (a_Ratio_str : PySem.W.findIn K (.ref f_Ratio) "__str__" = some (some (.ref f_Ratio_str))) (fn_Ratio_str : PySem.W.isFn K (.ref f_Ratio_str) = true)
    (l_Ratio_str : K.lookup f_Ratio_str = some ⟨oc_Ratio_str, od_Ratio_str, .func (PySem.W.fnOf "__str__" "Ratio.__str__" (defArgs s_Ratio_str) (defBody s_Ratio_str) (defScope s_Ratio_str) .none kV_Ratio_str dc_Ratio_str pm_Ratio_str an_Ratio_str cd_Ratio_str ct_Ratio_str), sl_Ratio_str⟩) (c_Ratio_str : PySem.W.codeIn K cd_Ratio_str "Ratio.__str__" = true) (k_Ratio_str : PySem.W.keepIn K (.ref f_Ratio_str) = true)
    {f_check_size : Addr} {od_check_size an_check_size : Option Addr} {sl_check_size : Array (Option Value)} {oc_check_size kV_check_size dc_check_size pm_check_size cd_check_size ct_check_size : Value}
    (a_check_size : PySem.W.nsIn K mainGlobals "check_size" = some (some (.ref f_check_size)))
    (l_check_size : K.lookup f_check_size = some ⟨oc_check_size, od_check_size, .func (PySem.W.fnOf "check_size" "check_size" (defArgs s_check_size) (defBody s_check_size) (defScope s_check_size) .none kV_check_size dc_check_size pm_check_size an_check_size cd_check_size ct_check_size), sl_check_size⟩) (c_check_size : PySem.W.codeIn K cd_check_size "check_size" = true) (k_check_size : PySem.W.keepIn K (.ref f_check_size) = true)
    {f_Matrix_getitem : Addr} {od_Matrix_getitem an_Matrix_getitem : Option Addr} {sl_Matrix_getitem : Array (Option Value)} {oc_Matrix_getitem kV_Matrix_getitem dc_Matrix_getitem pm_Matrix_getitem cd_Matrix_getitem ct_Matrix_getitem : Value}
    (a_Matrix_getitem : PySem.W.findIn K (.ref f_Matrix) "__getitem__" = some (some (.ref f_Matrix_getitem))) (fn_Matrix_getitem : PySem.W.isFn K (.ref f_Matrix_getitem) = true)
    (l_Matrix_getitem : K.lookup f_Matrix_getitem = some ⟨oc_Matrix_getitem, od_Matrix_getitem, .func (PySem.W.fnOf "__getitem__" "Matrix.__getitem__" (defArgs s_Matrix_getitem) (defBody s_Matrix_getitem) (defScope s_Matrix_getitem) .none kV_Matrix_getitem dc_Matrix_getitem pm_Matrix_getitem an_Matrix_getitem cd_Matrix_getitem ct_Matrix_getitem), sl_Matrix_getitem⟩) (c_Matrix_getitem : PySem.W.codeIn K cd_Matrix_getitem "Matrix.__getitem__" = true) (k_Matrix_getitem : PySem.W.keepIn K (.ref f_Matrix_getitem) = true)
    {f_Matrix_iter : Addr} {od_Matrix_iter an_Matrix_iter : Option Addr} {sl_Matrix_iter : Array (Option Value)} {oc_Matrix_iter kV_Matrix_iter dc_Matrix_iter pm_Matrix_iter cd_Matrix_iter ct_Matrix_iter : Value}
    (a_Matrix_iter : PySem.W.findIn K (.ref f_Matrix) "__iter__" = some (some (.ref f_Matrix_iter))) (fn_Matrix_iter : PySem.W.isFn K (.ref f_Matrix_iter) = true)
    (l_Matrix_iter : K.lookup f_Matrix_iter = some ⟨oc_Matrix_iter, od_Matrix_iter, .func (PySem.W.fnOf "__iter__" "Matrix.__iter__" (defArgs s_Matrix_iter) (defBody s_Matrix_iter) (defScope s_Matrix_iter) .none kV_Matrix_iter dc_Matrix_iter pm_Matrix_iter an_Matrix_iter cd_Matrix_iter ct_Matrix_iter), sl_Matrix_iter⟩) (c_Matrix_iter : PySem.W.codeIn K cd_Matrix_iter "Matrix.__iter__" = true) (k_Matrix_iter : PySem.W.keepIn K (.ref f_Matrix_iter) = true)
    {f__law_cell : Addr} {od__law_cell an__law_cell : Option Addr} {sl__law_cell : Array (Option Value)} {oc__law_cell kV__law_cell dc__law_cell pm__law_cell cd__law_cell ct__law_cell : Value}
    (a__law_cell : PySem.W.nsIn K mainGlobals "_law_cell" = some (some (.ref f__law_cell)))
    (l__law_cell : K.lookup f__law_cell = some ⟨oc__law_cell, od__law_cell, .func (PySem.W.fnOf "_law_cell" "_law_cell" (defArgs s__law_cell) (defBody s__law_cell) (defScope s__law_cell) .none kV__law_cell dc__law_cell pm__law_cell an__law_cell cd__law_cell ct__law_cell), sl__law_cell⟩) (c__law_cell : PySem.W.codeIn K cd__law_cell "_law_cell" = true) (k__law_cell : PySem.W.keepIn K (.ref f__law_cell) = true)
    {f__law_menu : Addr} {od__law_menu an__law_menu : Option Addr} {sl__law_menu : Array (Option Value)} {oc__law_menu kV__law_menu dc__law_menu pm__law_menu cd__law_menu ct__law_menu : Value}
    (a__law_menu : PySem.W.nsIn K mainGlobals "_law_menu" = some (some (.ref f__law_menu)))
    (l__law_menu : K.lookup f__law_menu = some ⟨oc__law_menu, od__law_menu, .func (PySem.W.fnOf "_law_menu" "_law_menu" (defArgs s__law_menu) (defBody s__law_menu) (defScope s__law_menu) .none kV__law_menu dc__law_menu pm__law_menu an__law_menu cd__law_menu ct__law_menu), sl__law_menu⟩) (c__law_menu : PySem.W.codeIn K cd__law_menu "_law_menu" = true) (k__law_menu : PySem.W.keepIn K (.ref f__law_menu) = true)
    {f__law_written : Addr} {od__law_written an__law_written : Option Addr} {sl__law_written : Array (Option Value)} {oc__law_written kV__law_written dc__law_written pm__law_written cd__law_written ct__law_written : Value}
    (a__law_written : PySem.W.nsIn K mainGlobals "_law_written" = some (some (.ref f__law_written)))
    (l__law_written : K.lookup f__law_written = some ⟨oc__law_written, od__law_written, .func (PySem.W.fnOf "_law_written" "_law_written" (defArgs s__law_written) (defBody s__law_written) (defScope s__law_written) .none kV__law_written dc__law_written pm__law_written an__law_written cd__law_written ct__law_written), sl__law_written⟩) (c__law_written : PySem.W.codeIn K cd__law_written "_law_written" = true) (k__law_written : PySem.W.keepIn K (.ref f__law_written) = true)
    {f__law_fraction : Addr} {od__law_fraction an__law_fraction : Option Addr} {sl__law_fraction : Array (Option Value)} {oc__law_fraction kV__law_fraction dc__law_fraction pm__law_fraction cd__law_fraction ct__law_fraction : Value}
    (a__law_fraction : PySem.W.nsIn K mainGlobals "_law_fraction" = some (some (.ref f__law_fraction)))
    (l__law_fraction : K.lookup f__law_fraction = some ⟨oc__law_fraction, od__law_fraction, .func (PySem.W.fnOf "_law_fraction" "_law_fraction" (defArgs s__law_fraction) (defBody s__law_fraction) (defScope s__law_fraction) .none kV__law_fraction dc__law_fraction pm__law_fraction an__law_fraction cd__law_fraction ct__law_fraction), sl__law_fraction⟩) (c__law_fraction : PySem.W.codeIn K cd__law_fraction "_law_fraction" = true) (k__law_fraction : PySem.W.keepIn K (.ref f__law_fraction) = true)
    {f__law_same_lines : Addr} {od__law_same_lines an__law_same_lines : Option Addr} {sl__law_same_lines : Array (Option Value)} {oc__law_same_lines kV__law_same_lines dc__law_same_lines pm__law_same_lines cd__law_same_lines ct__law_same_lines : Value}
    (a__law_same_lines : PySem.W.nsIn K mainGlobals "_law_same_lines" = some (some (.ref f__law_same_lines)))
    (l__law_same_lines : K.lookup f__law_same_lines = some ⟨oc__law_same_lines, od__law_same_lines, .func (PySem.W.fnOf "_law_same_lines" "_law_same_lines" (defArgs s__law_same_lines) (defBody s__law_same_lines) (defScope s__law_same_lines) .none kV__law_same_lines dc__law_same_lines pm__law_same_lines an__law_same_lines cd__law_same_lines ct__law_same_lines), sl__law_same_lines⟩) (c__law_same_lines : PySem.W.codeIn K cd__law_same_lines "_law_same_lines" = true) (k__law_same_lines : PySem.W.keepIn K (.ref f__law_same_lines) = true)
    {f_matrix_lines : Addr} {od_matrix_lines an_matrix_lines : Option Addr} {sl_matrix_lines : Array (Option Value)} {oc_matrix_lines kV_matrix_lines dc_matrix_lines pm_matrix_lines cd_matrix_lines ct_matrix_lines : Value}
    (a_matrix_lines : PySem.W.nsIn K mainGlobals "matrix_lines" = some (some (.ref f_matrix_lines)))
    (l_matrix_lines : K.lookup f_matrix_lines = some ⟨oc_matrix_lines, od_matrix_lines, .func (PySem.W.fnOf "matrix_lines" "matrix_lines" (defArgs s_matrix_lines) (defBody s_matrix_lines) (defScope s_matrix_lines) .none kV_matrix_lines dc_matrix_lines pm_matrix_lines an_matrix_lines cd_matrix_lines ct_matrix_lines), sl_matrix_lines⟩) (c_matrix_lines : PySem.W.codeIn K cd_matrix_lines "matrix_lines" = true) (k_matrix_lines : PySem.W.keepIn K (.ref f_matrix_lines) = true)
    {f_Matrix_init : Addr} {od_Matrix_init an_Matrix_init : Option Addr} {sl_Matrix_init : Array (Option Value)} {oc_Matrix_init kV_Matrix_init dc_Matrix_init pm_Matrix_init cd_Matrix_init ct_Matrix_init : Value}
    (a_Matrix_init : PySem.W.findIn K (.ref f_Matrix) "__init__" = some (some (.ref f_Matrix_init))) (fn_Matrix_init : PySem.W.isFn K (.ref f_Matrix_init) = true)
    (l_Matrix_init : K.lookup f_Matrix_init = some ⟨oc_Matrix_init, od_Matrix_init, .func (PySem.W.fnOf "__init__" "Matrix.__init__" (defArgs s_Matrix_init) (defBody s_Matrix_init) (defScope s_Matrix_init) .none kV_Matrix_init dc_Matrix_init pm_Matrix_init an_Matrix_init cd_Matrix_init ct_Matrix_init), sl_Matrix_init⟩) (c_Matrix_init : PySem.W.codeIn K cd_Matrix_init "Matrix.__init__" = true) (k_Matrix_init : PySem.W.keepIn K (.ref f_Matrix_init) = true)
    {f__law_number : Addr} {od__law_number an__law_number : Option Addr} {sl__law_number : Array (Option Value)} {oc__law_number kV__law_number dc__law_number pm__law_number cd__law_number ct__law_number : Value}
    (a__law_number : PySem.W.nsIn K mainGlobals "_law_number" = some (some (.ref f__law_number)))
    (l__law_number : K.lookup f__law_number = some ⟨oc__law_number, od__law_number, .func (PySem.W.fnOf "_law_number" "_law_number" (defArgs s__law_number) (defBody s__law_number) (defScope s__law_number) .none kV__law_number dc__law_number pm__law_number an__law_number cd__law_number ct__law_number), sl__law_number⟩) (c__law_number : PySem.W.codeIn K cd__law_number "_law_number" = true) (k__law_number : PySem.W.keepIn K (.ref f__law_number) = true)
    {f__law_lines : Addr} {od__law_lines an__law_lines : Option Addr} {sl__law_lines : Array (Option Value)} {oc__law_lines kV__law_lines dc__law_lines pm__law_lines cd__law_lines ct__law_lines : Value}
    (a__law_lines : PySem.W.nsIn K mainGlobals "_law_lines" = some (some (.ref f__law_lines)))
    (l__law_lines : K.lookup f__law_lines = some ⟨oc__law_lines, od__law_lines, .func (PySem.W.fnOf "_law_lines" "_law_lines" (defArgs s__law_lines) (defBody s__law_lines) (defScope s__law_lines) .none kV__law_lines dc__law_lines pm__law_lines an__law_lines cd__law_lines ct__law_lines), sl__law_lines⟩) (c__law_lines : PySem.W.codeIn K cd__law_lines "_law_lines" = true) (k__law_lines : PySem.W.keepIn K (.ref f__law_lines) = true)
    {f__law_same_entries : Addr} {od__law_same_entries an__law_same_entries : Option Addr} {sl__law_same_entries : Array (Option Value)} {oc__law_same_entries kV__law_same_entries dc__law_same_entries pm__law_same_entries cd__law_same_entries ct__law_same_entries : Value}
    (a__law_same_entries : PySem.W.nsIn K mainGlobals "_law_same_entries" = some (some (.ref f__law_same_entries)))
    (l__law_same_entries : K.lookup f__law_same_entries = some ⟨oc__law_same_entries, od__law_same_entries, .func (PySem.W.fnOf "_law_same_entries" "_law_same_entries" (defArgs s__law_same_entries) (defBody s__law_same_entries) (defScope s__law_same_entries) .none kV__law_same_entries dc__law_same_entries pm__law_same_entries an__law_same_entries cd__law_same_entries ct__law_same_entries), sl__law_same_entries⟩) (c__law_same_entries : PySem.W.codeIn K cd__law_same_entries "_law_same_entries" = true) (k__law_same_entries : PySem.W.keepIn K (.ref f__law_same_entries) = true)
    {f_point_lines : Addr} {od_point_lines an_point_lines : Option Addr} {sl_point_lines : Array (Option Value)} {oc_point_lines kV_point_lines dc_point_lines pm_point_lines cd_point_lines ct_point_lines : Value}
    (a_point_lines : PySem.W.nsIn K mainGlobals "point_lines" = some (some (.ref f_point_lines)))
    (l_point_lines : K.lookup f_point_lines = some ⟨oc_point_lines, od_point_lines, .func (PySem.W.fnOf "point_lines" "point_lines" (defArgs s_point_lines) (defBody s_point_lines) (defScope s_point_lines) .none kV_point_lines dc_point_lines pm_point_lines an_point_lines cd_point_lines ct_point_lines), sl_point_lines⟩) (c_point_lines : PySem.W.codeIn K cd_point_lines "point_lines" = true) (k_point_lines : PySem.W.keepIn K (.ref f_point_lines) = true)
    {f__law_table : Addr} {od__law_table an__law_table : Option Addr} {sl__law_table : Array (Option Value)} {oc__law_table kV__law_table dc__law_table pm__law_table cd__law_table ct__law_table : Value}
    (a__law_table : PySem.W.nsIn K mainGlobals "_law_table" = some (some (.ref f__law_table)))
    (l__law_table : K.lookup f__law_table = some ⟨oc__law_table, od__law_table, .func (PySem.W.fnOf "_law_table" "_law_table" (defArgs s__law_table) (defBody s__law_table) (defScope s__law_table) .none kV__law_table dc__law_table pm__law_table an__law_table cd__law_table ct__law_table), sl__law_table⟩) (c__law_table : PySem.W.codeIn K cd__law_table "_law_table" = true) (k__law_table : PySem.W.keepIn K (.ref f__law_table) = true)
    {f__law_filled : Addr} {od__law_filled an__law_filled : Option Addr} {sl__law_filled : Array (Option Value)} {oc__law_filled kV__law_filled dc__law_filled pm__law_filled cd__law_filled ct__law_filled : Value}
    (a__law_filled : PySem.W.nsIn K mainGlobals "_law_filled" = some (some (.ref f__law_filled)))
    (l__law_filled : K.lookup f__law_filled = some ⟨oc__law_filled, od__law_filled, .func (PySem.W.fnOf "_law_filled" "_law_filled" (defArgs s__law_filled) (defBody s__law_filled) (defScope s__law_filled) .none kV__law_filled dc__law_filled pm__law_filled an__law_filled cd__law_filled ct__law_filled), sl__law_filled⟩) (c__law_filled : PySem.W.codeIn K cd__law_filled "_law_filled" = true) (k__law_filled : PySem.W.keepIn K (.ref f__law_filled) = true)
    {f_law : Addr} {od_law an_law : Option Addr} {sl_law : Array (Option Value)} {oc_law kV_law dc_law pm_law cd_law ct_law : Value}
    (a_law : PySem.W.nsIn K mainGlobals "law" = some (some (.ref f_law)))
    (l_law : K.lookup f_law = some ⟨oc_law, od_law, .func (PySem.W.fnOf "law" "law" (defArgs s_law) (defBody s_law) (defScope s_law) .none kV_law dc_law pm_law an_law cd_law ct_law), sl_law⟩) (c_law : PySem.W.codeIn K cd_law "law" = true) (k_law : PySem.W.keepIn K (.ref f_law) = true)
    (pg_Ratio : PySem.W.plainGet K f_Ratio Str.empty = true) (hd_Ratio : PySem.W.hasDictIn K f_Ratio = true) (po_Ratio : PySem.W.plainOver K f_Ratio = true) (sa_Ratio : PySem.W.findIn K (.ref f_Ratio) "__setattr__" = some (some (.builtin "object.__setattr__"))) (sf_Ratio : PySem.W.selfFirst K f_Ratio = true)
    (mm_Ratio : PySem.W.makesIn K f_Ratio = true) (mkp_Ratio : PySem.W.keepIn K (.ref f_Ratio) = true) (nf_Ratio : PySem.W.notFirst K f_Ratio (.ref f_Ratio) = true)
    (ed_Ratio : PySem.W.findIn K (.ref f_Ratio) "__class__" = some (some (.builtin "object.__class__"))) (ee_Ratio : PySem.W.specialIn K (.builtin "object.__class__") "__get__" = some (some (.builtin "getset_descriptor.__get__"))) (ef_Ratio : PySem.W.takesIn K (.builtin "object.__class__") = some true) (eg_Ratio : PySem.W.mroIn K f_Ratio (.type "object") = some true)
    (na_Ratio_den : PySem.W.findIn K (.ref f_Ratio) "den" = some none)
    (na_Ratio_num : PySem.W.findIn K (.ref f_Ratio) "num" = some none)
    (pg_Matrix : PySem.W.plainGet K f_Matrix Str.empty = true) (hd_Matrix : PySem.W.hasDictIn K f_Matrix = true) (po_Matrix : PySem.W.plainOver K f_Matrix = true) (sa_Matrix : PySem.W.findIn K (.ref f_Matrix) "__setattr__" = some (some (.builtin "object.__setattr__"))) (sf_Matrix : PySem.W.selfFirst K f_Matrix = true)
    (mm_Matrix : PySem.W.makesIn K f_Matrix = true) (mkp_Matrix : PySem.W.keepIn K (.ref f_Matrix) = true) (nf_Matrix : PySem.W.notFirst K f_Matrix (.ref f_Matrix) = true)
    (ed_Matrix : PySem.W.findIn K (.ref f_Matrix) "__class__" = some (some (.builtin "object.__class__"))) (ee_Matrix : PySem.W.specialIn K (.builtin "object.__class__") "__get__" = some (some (.builtin "getset_descriptor.__get__"))) (ef_Matrix : PySem.W.takesIn K (.builtin "object.__class__") = some true) (eg_Matrix : PySem.W.mroIn K f_Matrix (.type "object") = some true)
    (na_Matrix_rows : PySem.W.findIn K (.ref f_Matrix) "rows" = some none)
    (na_Matrix_size : PySem.W.findIn K (.ref f_Matrix) "size" = some none)
    {f_TableError : Addr} (n_TableError : PySem.W.nsIn K mainGlobals "TableError" = some (some (.ref f_TableError))) (kp_TableError : PySem.W.keepIn K (.ref f_TableError) = true) (bp_TableError : PySem.W.subIn K (.ref f_TableError) (.type "BaseException") = some true) (tp_TableError : PySem.W.typeIn K (.ref f_TableError) = some (.type "type")) (ip_TableError : PySem.W.isClsIn K f_TableError = true)
    {f_ZeroDivisor : Addr} (n_ZeroDivisor : PySem.W.nsIn K mainGlobals "ZeroDivisor" = some (some (.ref f_ZeroDivisor))) (kp_ZeroDivisor : PySem.W.keepIn K (.ref f_ZeroDivisor) = true) (bp_ZeroDivisor : PySem.W.subIn K (.ref f_ZeroDivisor) (.type "BaseException") = some true) (tp_ZeroDivisor : PySem.W.typeIn K (.ref f_ZeroDivisor) = some (.type "type")) (ip_ZeroDivisor : PySem.W.isClsIn K f_ZeroDivisor = true)
    (e_ZeroDivisor : PySem.W.excIn K f_ZeroDivisor veB "ValueError.__new__" = true)
    {f_InvalidNumber : Addr} (n_InvalidNumber : PySem.W.nsIn K mainGlobals "InvalidNumber" = some (some (.ref f_InvalidNumber))) (kp_InvalidNumber : PySem.W.keepIn K (.ref f_InvalidNumber) = true) (bp_InvalidNumber : PySem.W.subIn K (.ref f_InvalidNumber) (.type "BaseException") = some true) (tp_InvalidNumber : PySem.W.typeIn K (.ref f_InvalidNumber) = some (.type "type")) (ip_InvalidNumber : PySem.W.isClsIn K f_InvalidNumber = true)
    {f_WrongSize : Addr} (n_WrongSize : PySem.W.nsIn K mainGlobals "WrongSize" = some (some (.ref f_WrongSize))) (kp_WrongSize : PySem.W.keepIn K (.ref f_WrongSize) = true) (bp_WrongSize : PySem.W.subIn K (.ref f_WrongSize) (.type "BaseException") = some true) (tp_WrongSize : PySem.W.typeIn K (.ref f_WrongSize) = some (.type "type")) (ip_WrongSize : PySem.W.isClsIn K f_WrongSize = true)
    (e_WrongSize : PySem.W.excIn K f_WrongSize veB "ValueError.__new__" = true)
    (fi_Matrix_getitem : PySem.W.fnIn K f_Matrix_getitem = true)
    (sbt_Ratio_int : PySem.W.subIn K (.ref f_Ratio) (.type "int") = some false)
    (sbt_Matrix_int : PySem.W.subIn K (.ref f_Matrix) (.type "int") = some false)
    (n_gcd : PySem.W.nsIn K mainGlobals "gcd" = some (some (.builtin "math.gcd")))
    {f_SIZES : Addr} {t0_SIZES t1_SIZES t2_SIZES : Tok} {od_SIZES : Option Addr} {nn_SIZES : Nat} {sl_SIZES : Array (Option Value)} (n_SIZES : PySem.W.nsIn K mainGlobals "SIZES" = some (some (.ref f_SIZES))) (l_SIZES : K.lookup f_SIZES = some ⟨.type "tuple", od_SIZES, .seq #[.int 1 t0_SIZES, .int 2 t1_SIZES, .int 3 t2_SIZES] nn_SIZES, sl_SIZES⟩)
    (z_abs : PySem.W.nsIn K mainGlobals "abs" = some none)
    (z_int : PySem.W.nsIn K mainGlobals "int" = some none)
    (z_isinstance : PySem.W.nsIn K mainGlobals "isinstance" = some none)
    (z_iter : PySem.W.nsIn K mainGlobals "iter" = some none)
    (z_len : PySem.W.nsIn K mainGlobals "len" = some none)
    (z_list : PySem.W.nsIn K mainGlobals "list" = some none)
    (z_max : PySem.W.nsIn K mainGlobals "max" = some none)
    (z_range : PySem.W.nsIn K mainGlobals "range" = some none)
    (z_sorted : PySem.W.nsIn K mainGlobals "sorted" = some none)
    (z_str : PySem.W.nsIn K mainGlobals "str" = some none)
    (z_tuple : PySem.W.nsIn K mainGlobals "tuple" = some none)
    (z_zip : PySem.W.nsIn K mainGlobals "zip" = some none)
    : ∃ fd : FuncData, (∀ (s : Shared) (v : Value), BindsTo s fd ⟨[v], []⟩ [("script", v)]) ∧ ∀ base : Heap, K.In base → base.Ns mainGlobals mg → FnOk l.prog w K mg base (L2.CX l.prog w) 6 fa fd ["script"] (topSpB K) := by
  have e := hfa.symm.trans (PySem.W.mg_of X G a_law)
  cases e
  have FF_Ratio_init : FunD K "__init__" "Ratio.__init__" (defArgs s_Ratio_init) (defBody s_Ratio_init) (defScope s_Ratio_init) [.int 1] [] f_Ratio_init (PySem.W.fnOf "__init__" "Ratio.__init__" (defArgs s_Ratio_init) (defBody s_Ratio_init) (defScope s_Ratio_init) (.ref dT_Ratio_init) kV_Ratio_init dc_Ratio_init pm_Ratio_init an_Ratio_init cd_Ratio_init ct_Ratio_init) := ⟨⟨_, _, _, _, _, _, _, _, _, _, rfl, l_Ratio_init, c_Ratio_init, .inr ⟨by simp, _, _, [.int 1 tT0_Ratio_init], _, rfl, dt_Ratio_init, rfl, (.cons ⟨_, rfl⟩ .nil)⟩, .inl rfl⟩, k_Ratio_init⟩
  have BB_Ratio_init : Binds K (PySem.W.fnOf "__init__" "Ratio.__init__" (defArgs s_Ratio_init) (defBody s_Ratio_init) (defScope s_Ratio_init) (.ref dT_Ratio_init) kV_Ratio_init dc_Ratio_init pm_Ratio_init an_Ratio_init cd_Ratio_init ct_Ratio_init) ["self", "num", "den"] [] := by
    obtain ⟨ds, hv, hb⟩ := FF_Ratio_init.binds1 (ps := ["self", "num", "den"]) 3 1 (by simp) rfl (fun _ _ _ _ _ _ _ us its h1 h2 => match us, its, h1, h2 with | [_, _, _], [_], _, _ => ⟨_, rfl, rfl⟩)
    cases hv
    exact hb
  have BD1_Ratio_init : ∃ ds, Vals [.int 1] ds ∧ Binds K (PySem.W.fnOf "__init__" "Ratio.__init__" (defArgs s_Ratio_init) (defBody s_Ratio_init) (defScope s_Ratio_init) (.ref dT_Ratio_init) kV_Ratio_init dc_Ratio_init pm_Ratio_init an_Ratio_init cd_Ratio_init ct_Ratio_init) ["self", "num", "den"] ds := FF_Ratio_init.binds1 (ps := ["self", "num", "den"]) 2 0 (by simp) rfl (fun _ _ _ _ _ _ _ us its h1 h2 => match us, its, h1, h2 with | [_, _], [_], _, _ => ⟨_, rfl, rfl⟩)
  obtain ⟨ds1_Ratio_init, VD1_Ratio_init, BDD1_Ratio_init⟩ := BD1_Ratio_init
  have FF_Ratio_str := fun_mk (st := s_Ratio_str) l_Ratio_str c_Ratio_str k_Ratio_str
  have FF_check_size := fun_mk (st := s_check_size) l_check_size c_check_size k_check_size
  have FF_Matrix_getitem := fun_mk (st := s_Matrix_getitem) l_Matrix_getitem c_Matrix_getitem k_Matrix_getitem
  have FF_Matrix_iter := fun_mk (st := s_Matrix_iter) l_Matrix_iter c_Matrix_iter k_Matrix_iter
  have FF__law_cell := fun_mk (st := s__law_cell) l__law_cell c__law_cell k__law_cell
  have FF__law_menu := fun_mk (st := s__law_menu) l__law_menu c__law_menu k__law_menu
  have FF__law_written := fun_mk (st := s__law_written) l__law_written c__law_written k__law_written
  have FF__law_fraction := fun_mk (st := s__law_fraction) l__law_fraction c__law_fraction k__law_fraction
  have FF__law_same_lines := fun_mk (st := s__law_same_lines) l__law_same_lines c__law_same_lines k__law_same_lines
  have FF_matrix_lines := fun_mk (st := s_matrix_lines) l_matrix_lines c_matrix_lines k_matrix_lines
  have FF_Matrix_init := fun_mk (st := s_Matrix_init) l_Matrix_init c_Matrix_init k_Matrix_init
  have FF__law_number := fun_mk (st := s__law_number) l__law_number c__law_number k__law_number
  have FF__law_lines := fun_mk (st := s__law_lines) l__law_lines c__law_lines k__law_lines
  have FF__law_same_entries := fun_mk (st := s__law_same_entries) l__law_same_entries c__law_same_entries k__law_same_entries
  have FF_point_lines := fun_mk (st := s_point_lines) l_point_lines c_point_lines k_point_lines
  have FF__law_table := fun_mk (st := s__law_table) l__law_table c__law_table k__law_table
  have FF__law_filled := fun_mk (st := s__law_filled) l__law_filled c__law_filled k__law_filled
  have FF_law := fun_mk (st := s_law) l_law c_law k_law
  exact ⟨PySem.W.fnOf "law" "law" (defArgs s_law) (defBody s_law) (defScope s_law) .none kV_law dc_law pm_law an_law cd_law ct_law, fun s v => .of_eq rfl, fun base _ _ => ok_topB (K := K) rfl ht (ok_law (base := base) (P := l.prog) (w := w) {
    z_abs := PySem.W.mg_none_of X G z_abs,
    z_int := PySem.W.mg_none_of X G z_int,
    z_isinstance := PySem.W.mg_none_of X G z_isinstance,
    z_iter := PySem.W.mg_none_of X G z_iter,
    z_len := PySem.W.mg_none_of X G z_len,
    z_list := PySem.W.mg_none_of X G z_list,
    z_max := PySem.W.mg_none_of X G z_max,
    z_range := PySem.W.mg_none_of X G z_range,
    z_sorted := PySem.W.mg_none_of X G z_sorted,
    z_str := PySem.W.mg_none_of X G z_str,
    z_tuple := PySem.W.mg_none_of X G z_tuple,
    z_zip := PySem.W.mg_none_of X G z_zip,
    c_TableError := f_TableError, x_TableError := ⟨PySem.W.mg_of X G n_TableError, kp_TableError, bp_TableError, tp_TableError, ip_TableError⟩,
    c_ZeroDivisor := f_ZeroDivisor, x_ZeroDivisor := ⟨PySem.W.mg_of X G n_ZeroDivisor, kp_ZeroDivisor, bp_ZeroDivisor, tp_ZeroDivisor, ip_ZeroDivisor⟩,
    e_ZeroDivisor := e_ZeroDivisor,
    c_InvalidNumber := f_InvalidNumber, x_InvalidNumber := ⟨PySem.W.mg_of X G n_InvalidNumber, kp_InvalidNumber, bp_InvalidNumber, tp_InvalidNumber, ip_InvalidNumber⟩,
    c_WrongSize := f_WrongSize, x_WrongSize := ⟨PySem.W.mg_of X G n_WrongSize, kp_WrongSize, bp_WrongSize, tp_WrongSize, ip_WrongSize⟩,
    e_WrongSize := e_WrongSize,
    c_Ratio := f_Ratio, g_Ratio := PySem.W.mg_of X G n_Ratio, oc_Ratio := ⟨⟨pg_Ratio, hd_Ratio, po_Ratio, sa_Ratio⟩, sf_Ratio⟩, mk_Ratio := ⟨mm_Ratio, a_Ratio_init, fn_Ratio_init, mkp_Ratio⟩, nf_Ratio := nf_Ratio, in_Ratio := ⟨⟨pg_Ratio, hd_Ratio, po_Ratio, sa_Ratio⟩, ed_Ratio, ee_Ratio, ef_Ratio, eg_Ratio⟩,
    na_Ratio_den := na_Ratio_den,
    na_Ratio_num := na_Ratio_num,
    d_Ratio_str := ⟨a_Ratio_str, fn_Ratio_str⟩,
    c_Matrix := f_Matrix, g_Matrix := PySem.W.mg_of X G n_Matrix, oc_Matrix := ⟨⟨pg_Matrix, hd_Matrix, po_Matrix, sa_Matrix⟩, sf_Matrix⟩, mk_Matrix := ⟨mm_Matrix, a_Matrix_init, fn_Matrix_init, mkp_Matrix⟩, nf_Matrix := nf_Matrix, in_Matrix := ⟨⟨pg_Matrix, hd_Matrix, po_Matrix, sa_Matrix⟩, ed_Matrix, ee_Matrix, ef_Matrix, eg_Matrix⟩,
    na_Matrix_rows := na_Matrix_rows,
    na_Matrix_size := na_Matrix_size,
    d_Matrix_getitem := ⟨a_Matrix_getitem, fn_Matrix_getitem⟩,
    d_Matrix_iter := ⟨a_Matrix_iter, fn_Matrix_iter⟩,
    fi_Matrix_getitem := fi_Matrix_getitem,
    sbt_Ratio_int := sbt_Ratio_int,
    sbt_Matrix_int := sbt_Matrix_int,
    g_gcd := PySem.W.mg_of X G n_gcd,
    a_SIZES := f_SIZES, g_SIZES := PySem.W.mg_of X G n_SIZES, t_SIZES := fun H => .inr ⟨_, _, _, l_SIZES, rfl, rfl, (by show 3 ≤ sizeLine; rw [sizeLine_eq]; omega), (.cons ⟨_, rfl⟩ (.cons ⟨_, rfl⟩ (.cons ⟨_, rfl⟩ .nil)))⟩,
    ds1_Ratio_init := ds1_Ratio_init, vd1_Ratio_init := VD1_Ratio_init, bd1_Ratio_init := BDD1_Ratio_init,
    a_Ratio_init := f_Ratio_init, fd_Ratio_init := _, F_Ratio_init := FF_Ratio_init, b_Ratio_init := BB_Ratio_init,
    a_Ratio_str := f_Ratio_str, fd_Ratio_str := _, F_Ratio_str := FF_Ratio_str, b_Ratio_str := FF_Ratio_str.binds (ps := ["self"]) fun _ _ _ _ _ _ us hl => (match us, hl with | [_], _ => rfl),
    a_check_size := f_check_size, fd_check_size := _, F_check_size := FF_check_size, b_check_size := FF_check_size.binds (ps := ["size"]) fun _ _ _ _ _ _ us hl => (match us, hl with | [_], _ => rfl), g_check_size := PySem.W.mg_of X G a_check_size,
    a_Matrix_getitem := f_Matrix_getitem, fd_Matrix_getitem := _, F_Matrix_getitem := FF_Matrix_getitem, b_Matrix_getitem := FF_Matrix_getitem.binds (ps := ["self", "at"]) fun _ _ _ _ _ _ us hl => (match us, hl with | [_, _], _ => rfl),
    a_Matrix_iter := f_Matrix_iter, fd_Matrix_iter := _, F_Matrix_iter := FF_Matrix_iter, b_Matrix_iter := FF_Matrix_iter.binds (ps := ["self"]) fun _ _ _ _ _ _ us hl => (match us, hl with | [_], _ => rfl),
    a__law_cell := f__law_cell, fd__law_cell := _, F__law_cell := FF__law_cell, b__law_cell := FF__law_cell.binds (ps := ["script", "k"]) fun _ _ _ _ _ _ us hl => (match us, hl with | [_, _], _ => rfl), g__law_cell := PySem.W.mg_of X G a__law_cell,
    a__law_menu := f__law_menu, fd__law_menu := _, F__law_menu := FF__law_menu, b__law_menu := FF__law_menu.binds (ps := ["number"]) fun _ _ _ _ _ _ us hl => (match us, hl with | [_], _ => rfl), g__law_menu := PySem.W.mg_of X G a__law_menu,
    a__law_written := f__law_written, fd__law_written := _, F__law_written := FF__law_written, b__law_written := FF__law_written.binds (ps := ["num", "den"]) fun _ _ _ _ _ _ us hl => (match us, hl with | [_, _], _ => rfl), g__law_written := PySem.W.mg_of X G a__law_written,
    a__law_fraction := f__law_fraction, fd__law_fraction := _, F__law_fraction := FF__law_fraction, b__law_fraction := FF__law_fraction.binds (ps := ["number"]) fun _ _ _ _ _ _ us hl => (match us, hl with | [_], _ => rfl), g__law_fraction := PySem.W.mg_of X G a__law_fraction,
    a__law_same_lines := f__law_same_lines, fd__law_same_lines := _, F__law_same_lines := FF__law_same_lines, b__law_same_lines := FF__law_same_lines.binds (ps := ["told", "due"]) fun _ _ _ _ _ _ us hl => (match us, hl with | [_, _], _ => rfl), g__law_same_lines := PySem.W.mg_of X G a__law_same_lines,
    a_matrix_lines := f_matrix_lines, fd_matrix_lines := _, F_matrix_lines := FF_matrix_lines, b_matrix_lines := FF_matrix_lines.binds (ps := ["matrix"]) fun _ _ _ _ _ _ us hl => (match us, hl with | [_], _ => rfl), g_matrix_lines := PySem.W.mg_of X G a_matrix_lines,
    a_Matrix_init := f_Matrix_init, fd_Matrix_init := _, F_Matrix_init := FF_Matrix_init, b_Matrix_init := FF_Matrix_init.binds (ps := ["self", "rows"]) fun _ _ _ _ _ _ us hl => (match us, hl with | [_, _], _ => rfl),
    a__law_number := f__law_number, fd__law_number := _, F__law_number := FF__law_number, b__law_number := FF__law_number.binds (ps := ["script", "k"]) fun _ _ _ _ _ _ us hl => (match us, hl with | [_, _], _ => rfl), g__law_number := PySem.W.mg_of X G a__law_number,
    a__law_lines := f__law_lines, fd__law_lines := _, F__law_lines := FF__law_lines, b__law_lines := FF__law_lines.binds (ps := ["table"]) fun _ _ _ _ _ _ us hl => (match us, hl with | [_], _ => rfl), g__law_lines := PySem.W.mg_of X G a__law_lines,
    a__law_same_entries := f__law_same_entries, fd__law_same_entries := _, F__law_same_entries := FF__law_same_entries, b__law_same_entries := FF__law_same_entries.binds (ps := ["matrix", "table"]) fun _ _ _ _ _ _ us hl => (match us, hl with | [_, _], _ => rfl), g__law_same_entries := PySem.W.mg_of X G a__law_same_entries,
    a_point_lines := f_point_lines, fd_point_lines := _, F_point_lines := FF_point_lines, b_point_lines := FF_point_lines.binds (ps := ["matrices"]) fun _ _ _ _ _ _ us hl => (match us, hl with | [_], _ => rfl), g_point_lines := PySem.W.mg_of X G a_point_lines,
    a__law_table := f__law_table, fd__law_table := _, F__law_table := FF__law_table, b__law_table := FF__law_table.binds (ps := ["script", "start", "size"]) fun _ _ _ _ _ _ us hl => (match us, hl with | [_, _, _], _ => rfl), g__law_table := PySem.W.mg_of X G a__law_table,
    a__law_filled := f__law_filled, fd__law_filled := _, F__law_filled := FF__law_filled, b__law_filled := FF__law_filled.binds (ps := ["table", "whole"]) fun _ _ _ _ _ _ us hl => (match us, hl with | [_, _], _ => rfl), g__law_filled := PySem.W.mg_of X G a__law_filled,
    a_law := fa, fd_law := _, F_law := FF_law, b_law := FF_law.binds (ps := ["script"]) fun _ _ _ _ _ _ us hl => (match us, hl with | [_], _ => rfl), g_law := PySem.W.mg_of X G a_law })⟩
end K83
namespace K83
open PySem Fn L2
/-! ### lowest terms -/
def sg (n d : Int) : Int := if d < 0 then -((Nat.gcd n.natAbs d.natAbs : Nat) : Int) else ((Nat.gcd n.natAbs d.natAbs : Nat) : Int)
def lo (n d : Int) : Int × Int := (n.fdiv (sg n d), d.fdiv (sg n d))
structure IsLo (n d p q : Int) : Prop where
  pos : 0 < q
  cop : Nat.gcd p.natAbs q.natAbs = 1
  eq : p * d = n * q
theorem gcd_split (n d : Int) (hd : d ≠ 0) : ∃ g : Nat, 0 < g ∧ Nat.gcd n.natAbs d.natAbs = g ∧ ∃ n1 d1 : Int, n = g * n1 ∧ d = g * d1 ∧ Nat.gcd n1.natAbs d1.natAbs = 1 := by
  have hg : 0 < Nat.gcd n.natAbs d.natAbs := Nat.gcd_pos_of_pos_right _ (by omega)
  refine ⟨_, hg, rfl, ?_⟩
  have h1 : ((Nat.gcd n.natAbs d.natAbs : Nat) : Int) ∣ n := Int.ofNat_dvd_left.mpr (Nat.gcd_dvd_left _ _)
  have h2 : ((Nat.gcd n.natAbs d.natAbs : Nat) : Int) ∣ d := Int.ofNat_dvd_left.mpr (Nat.gcd_dvd_right _ _)
  obtain ⟨n1, e1⟩ := h1
  obtain ⟨d1, e2⟩ := h2
  refine ⟨n1, d1, e1, e2, ?_⟩
  generalize hG : Nat.gcd n.natAbs d.natAbs = G at *
  have : G * Nat.gcd n1.natAbs d1.natAbs = G * 1 := by
    rw [← Nat.gcd_mul_left, Nat.mul_one]
    have a1 : G * n1.natAbs = n.natAbs := by rw [e1, Int.natAbs_mul]; rfl
    have a2 : G * d1.natAbs = d.natAbs := by rw [e2, Int.natAbs_mul]; rfl
    rw [a1, a2]; exact hG
  exact Nat.eq_of_mul_eq_mul_left hg this
theorem lo_is (n d : Int) (hd : d ≠ 0) : IsLo n d (lo n d).1 (lo n d).2 := by
  obtain ⟨g, hg, e, n1, d1, e1, e2, hc⟩ := gcd_split n d hd
  have g0 : (g : Int) ≠ 0 := by omega
  unfold lo sg
  rw [e]
  by_cases h : d < 0
  · rw [if_pos h]
    have a1 : n.fdiv (-(g : Int)) = -n1 := by
      rw [e1, show (g : Int) * n1 = (-(g : Int)) * (-n1) by rw [Int.neg_mul_neg]]
      exact Int.mul_fdiv_cancel_left _ (by omega)
    have a2 : d.fdiv (-(g : Int)) = -d1 := by
      rw [e2, show (g : Int) * d1 = (-(g : Int)) * (-d1) by rw [Int.neg_mul_neg]]
      exact Int.mul_fdiv_cancel_left _ (by omega)
    have hd1 : d1 < 0 := by
      rcases Int.lt_trichotomy d1 0 with q | q | q
      · exact q
      · rw [q] at e2; omega
      · have := Int.mul_pos (show (0 : Int) < g by omega) q; omega
    refine ⟨?_, ?_, ?_⟩
    · show 0 < d.fdiv _; rw [a2]; omega
    · show Nat.gcd (n.fdiv _).natAbs (d.fdiv _).natAbs = 1; rw [a1, a2, Int.natAbs_neg, Int.natAbs_neg]; exact hc
    · show n.fdiv _ * d = n * d.fdiv _; rw [a1, a2, e1, e2]; grind
  · rw [if_neg h]
    have a1 : n.fdiv (g : Int) = n1 := by rw [e1]; exact Int.mul_fdiv_cancel_left _ g0
    have a2 : d.fdiv (g : Int) = d1 := by rw [e2]; exact Int.mul_fdiv_cancel_left _ g0
    have hd1 : 0 < d1 := by
      rcases Int.lt_trichotomy d1 0 with q | q | q
      · have := Int.mul_neg_of_pos_of_neg (show (0 : Int) < g by omega) q; omega
      · rw [q] at e2; omega
      · exact q
    refine ⟨?_, ?_, ?_⟩
    · show 0 < d.fdiv _; rw [a2]; omega
    · show Nat.gcd (n.fdiv _).natAbs (d.fdiv _).natAbs = 1; rw [a1, a2]; exact hc
    · show n.fdiv _ * d = n * d.fdiv _; rw [a1, a2, e1, e2]; grind
theorem lo_unique {n d p q p' q' : Int} (hd : d ≠ 0) (a : IsLo n d p q) (b : IsLo n d p' q') : p = p' ∧ q = q' := by
  have h : p * q' = p' * q := by
    have e1 := a.eq
    have e2 := b.eq
    refine Int.eq_of_mul_eq_mul_right hd ?_
    grind
  have hn : p.natAbs * q'.natAbs = p'.natAbs * q.natAbs := by rw [← Int.natAbs_mul, ← Int.natAbs_mul, h]
  have d1 : q.natAbs ∣ q'.natAbs := by
    refine (Nat.Coprime.dvd_of_dvd_mul_left (k := q.natAbs) (m := p.natAbs) (n := q'.natAbs) ?_ ⟨p'.natAbs, by rw [hn, Nat.mul_comm]⟩)
    show Nat.gcd q.natAbs p.natAbs = 1
    rw [Nat.gcd_comm]; exact a.cop
  have d2 : q'.natAbs ∣ q.natAbs := by
    refine (Nat.Coprime.dvd_of_dvd_mul_left (k := q'.natAbs) (m := p'.natAbs) (n := q.natAbs) ?_ ⟨p.natAbs, by rw [← hn, Nat.mul_comm]⟩)
    show Nat.gcd q'.natAbs p'.natAbs = 1
    rw [Nat.gcd_comm]; exact b.cop
  have e := Nat.dvd_antisymm d1 d2
  have p1 := a.pos
  have p2 := b.pos
  have eq : q = q' := by omega
  subst eq
  exact ⟨Int.eq_of_mul_eq_mul_right (by omega) h, rfl⟩
theorem lo_eq {n d n' d' : Int} (hd : d ≠ 0) (hd' : d' ≠ 0) (h : n * d' = n' * d) : lo n d = lo n' d' := by
  have a := lo_is n d hd
  have b := lo_is n' d' hd'
  have c : IsLo n d (lo n' d').1 (lo n' d').2 := ⟨b.pos, b.cop, by
    have e := b.eq
    refine Int.eq_of_mul_eq_mul_right hd' ?_
    grind⟩
  obtain ⟨x, y⟩ := lo_unique hd a c
  exact Prod.ext x y
/-! ### sizes -/
def bd (k : Nat) (x : Int) : Prop := x.natAbs < 2 ^ k
theorem bd_mono {j k : Nat} {x : Int} (h : j ≤ k) (b : bd j x) : bd k x := Nat.lt_of_lt_of_le b (Nat.pow_le_pow_right (by omega) h)
theorem bd_mul {j k : Nat} {x y : Int} (a : bd j x) (b : bd k y) : bd (j + k) (x * y) := by
  unfold bd at *
  rw [Int.natAbs_mul, Nat.pow_add]
  exact Nat.mul_lt_mul'' a b
theorem bd_neg {k : Nat} {x : Int} (a : bd k x) : bd k (-x) := by unfold bd at *; rw [Int.natAbs_neg]; exact a
theorem bd_add {k : Nat} {x y : Int} (a : bd k x) (b : bd k y) : bd (k + 1) (x + y) := by
  unfold bd at *
  rw [Nat.pow_succ]
  have := Int.natAbs_add_le x y
  omega
theorem bd_sub {k : Nat} {x y : Int} (a : bd k x) (b : bd k y) : bd (k + 1) (x - y) := by
  rw [Int.sub_eq_add_neg]; exact bd_add a (bd_neg b)
theorem bd_log {k : Nat} {x : Int} (a : bd k x) : Nat.log2 x.natAbs ≤ k := by
  by_cases h : x.natAbs = 0
  · rw [h]; exact Nat.le_trans (by decide) (Nat.zero_le k)
  · exact Nat.le_of_lt ((Nat.log2_lt h).mpr a)
theorem c_mul {j k : Nat} {x y : Int} (a : bd j x) (b : bd k y) (h : j + k < 1000000) : cMulW x y = true := by
  unfold cMulW
  have := bd_log a
  have := bd_log b
  exact Nat.ble_eq_true_of_le (by omega)
theorem c_div {k : Nat} {x y : Int} (hy : y ≠ 0) (b : bd k y) (h : k < 9000) : cDivA x y = true := by
  unfold cDivA
  have := bd_log b
  rw [Bool.and_eq_true]
  exact ⟨by simpa using hy, Nat.ble_eq_true_of_le (by omega)⟩
theorem bd_sg {k : Nat} {n d : Int} (hd : d ≠ 0) (b : bd k d) : bd k (sg n d) ∧ sg n d ≠ 0 := by
  have h1 : Nat.gcd n.natAbs d.natAbs ≤ d.natAbs := Nat.gcd_le_right _ (by omega)
  have h2 : 0 < Nat.gcd n.natAbs d.natAbs := Nat.gcd_pos_of_pos_right _ (by omega)
  unfold bd sg at *
  split
  · exact ⟨by omega, by omega⟩
  · exact ⟨by omega, by omega⟩
theorem bd_lo {j k : Nat} {n d : Int} (hd : d ≠ 0) (a : bd j n) (b : bd k d) : bd j (lo n d).1 ∧ bd k (lo n d).2 := by
  have g := bd_sg (n := n) hd b
  have aux : ∀ x s : Int, s ≠ 0 → s ∣ x → (x.fdiv s).natAbs ≤ x.natAbs := by
    intro x s hs ⟨y, e⟩
    rw [e, Int.mul_fdiv_cancel_left _ hs, Int.natAbs_mul]
    exact Nat.le_mul_of_pos_left _ (by omega)
  have h1 : ((Nat.gcd n.natAbs d.natAbs : Nat) : Int) ∣ n := Int.ofNat_dvd_left.mpr (Nat.gcd_dvd_left _ _)
  have h2 : ((Nat.gcd n.natAbs d.natAbs : Nat) : Int) ∣ d := Int.ofNat_dvd_left.mpr (Nat.gcd_dvd_right _ _)
  have s1 : sg n d ∣ n := by unfold sg; split; exact Int.neg_dvd.mpr h1; exact h1
  have s2 : sg n d ∣ d := by unfold sg; split; exact Int.neg_dvd.mpr h2; exact h2
  exact ⟨Nat.lt_of_le_of_lt (aux _ _ g.2 s1) a, Nat.lt_of_le_of_lt (aux _ _ g.2 s2) b⟩
/-! ### Ratio(n, d) -/
theorem init_ok {k : Nat} (n d : Int) (hd : d ≠ 0) (b : bd k d) (h : k < 9000) : F_Ratio_init [.ref 0, .int n, .int d] [.ins 4 []] = .ok .non [.ins 4 [.int (lo n d).1, .int (lo n d).2]] := by
  have g := bd_sg (n := n) hd b
  have c1 : ∀ x, cDivA x (sg n d) = true := fun x => c_div g.2 g.1 h
  have hd' : (d == 0) = false := by simpa using hd
  unfold sg at c1
  by_cases q : d < 0
  · have q' : decide (d < 0) = true := by simpa using q
    simp only [if_pos q] at c1
    simp [F_Ratio_init, runH, B_Ratio_init, startU, gSeq, gIf, gSet, bE, e1, e2, eVar, eC, eCall, eCons, eNil, gNx, Rs.bind, Rs.then, kEq, eqD, hd', kGcd, kLt, kIB, q', kNeg, gFld, kPutF, kI, c1, finH, lo, sg, q]
  · have q' : decide (d < 0) = false := by simpa using q
    simp only [if_neg q] at c1
    simp [F_Ratio_init, runH, B_Ratio_init, startU, gSeq, gIf, gSet, bE, e1, e2, eVar, eC, eCall, eCons, eNil, gNx, Rs.bind, Rs.then, kEq, eqD, hd', kGcd, kLt, kIB, q', kNeg, gFld, kPutF, kI, c1, finH, lo, sg, q]
theorem init_zero (n : Int) : F_Ratio_init [.ref 0, .int n, .int 0] [.ins 4 []] = .ex ⟨1, []⟩ [.ins 4 []] := by
  simp [F_Ratio_init, runH, B_Ratio_init, startU, gSeq, gIf, gSet, bE, e1, e2, eVar, eC, eCall, eCons, eNil, gNx, Rs.bind, Rs.then, kEq, eqD, gRaise, finH]
def ratU (p : Int × Int) : U := .ob 4 [.int p.1, .int p.2]
theorem make_ok {k : Nat} {fa : EvA} {us : Lo} {h h1 : List UO} {n d : Int} (e : fa us h = .ok [.int n, .int d] h1) (hd : d ≠ 0) (b : bd k d) (hk : k < 9000) : eMake 4 3 2 F_Ratio_init fa us h = .ok (ratU (lo n d)) h1 := by
  unfold eMake
  rw [e]
  simp [Rs.bind, pureU, init_ok n d hd b hk, mkU, frz, mapO, ratU]
theorem make_zero {fa : EvA} {us : Lo} {h h1 : List UO} {n : Int} (e : fa us h = .ok [.int n, .int 0] h1) : eMake 4 3 2 F_Ratio_init fa us h = .ex ⟨1, []⟩ h1 := by
  unfold eMake
  rw [e]
  simp [Rs.bind, pureU, init_zero]
/-! ### Euclid -/
def fibp : Nat → Nat × Nat
  | 0 => (0, 1)
  | n + 1 => ((fibp n).2, (fibp n).1 + (fibp n).2)
def eu : Nat → Nat → Nat → Nat
  | 0, a, _ => a
  | n + 1, a, b => if b = 0 then a else eu n b (a % b)
theorem eu_zero : ∀ n a, eu n a 0 = a
  | 0, _ => rfl
  | n + 1, a => by simp [eu]
theorem eu_gcd2 : ∀ k, (∀ a b, b < (fibp k).2 → eu k a b = Nat.gcd a b) ∧ (∀ a b, b < (fibp (k + 1)).2 → eu (k + 1) a b = Nat.gcd a b)
  | 0 => ⟨fun a b h => by
      have h : b < 1 := h
      have : b = 0 := by omega
      subst this; simp [eu], fun a b h => by
      have h : b < 1 := h
      have : b = 0 := by omega
      subst this; simp [eu]⟩
  | k + 1 => by
    obtain ⟨h1, h2⟩ := eu_gcd2 k
    refine ⟨h2, fun a b h => ?_⟩
    by_cases hb : b = 0
    · subst hb; rw [eu_zero, Nat.gcd_zero_right]
    · have hr : a % b < b := Nat.mod_lt _ (by omega)
      have e : Nat.gcd a b = Nat.gcd b (a % b) := by
        rw [Nat.gcd_comm a b, Nat.gcd_rec b a, Nat.gcd_comm]
      show (if b = 0 then a else eu (k + 1) b (a % b)) = _
      rw [if_neg hb, e]
      by_cases q : a % b < (fibp (k + 1)).2
      · exact h2 _ _ q
      · have hr0 : a % b ≠ 0 := fun z => by
          have : 0 < (fibp (k + 1)).2 := by
            have aux : ∀ n, 0 < (fibp n).2 := fun n => by
              induction n with
              | zero => decide
              | succ n ih => show 0 < (fibp n).1 + (fibp n).2; omega
            exact aux _
          omega
        have e2 : Nat.gcd b (a % b) = Nat.gcd (a % b) (b % (a % b)) := by
          rw [Nat.gcd_comm b (a % b), Nat.gcd_rec (a % b) b, Nat.gcd_comm]
        show (if a % b = 0 then b else eu k (a % b) (b % (a % b))) = _
        rw [if_neg hr0, e2]
        refine h1 _ _ ?_
        have h : b < (fibp (k + 1)).1 + (fibp (k + 1)).2 := h
        have h3 : (fibp (k + 1)).1 = (fibp k).2 := rfl
        have h4 : b % (a % b) + a % b ≤ b := by
          have h5 := Nat.div_add_mod b (a % b)
          have h6 : 1 ≤ b / (a % b) := Nat.div_pos (by omega) (by omega)
          have h7 : (a % b) * 1 ≤ (a % b) * (b / (a % b)) := Nat.mul_le_mul_left _ h6
          omega
        omega
theorem eu_gcd (a b : Nat) (h : b < 2 ^ 250) : eu 400 a b = Nat.gcd a b := (eu_gcd2 399).2 a b (Nat.lt_of_lt_of_le h (by decide +kernel))
open PySem.NumText
/-! ### texts as lists of signs -/
def T (l : List Nat) : Str := ⟨l.toArray⟩
theorem T_list (l : List Nat) : (T l).cps.toList = l := rfl
theorem T_len (l : List Nat) : (T l).length = l.length := by show l.toArray.size = _; simp
theorem T_app (a b : List Nat) : T a ++ T b = T (a ++ b) := by
  show Str.mk (a.toArray ++ b.toArray) = _
  unfold T
  rw [List.append_toArray]
theorem T_inj {a b : List Nat} (h : T a = T b) : a = b := by
  have := congrArg (fun s : Str => s.cps.toList) h
  exact this
theorem T_of (s : Str) : s = T s.cps.toList := by
  obtain ⟨a⟩ := s
  show Str.mk a = Str.mk a.toList.toArray
  rw [Array.toArray_toList]
/-! ### the digits of a number -/
def dg (n : Nat) : List Nat := (Nat.toDigits 10 n).map Char.toNat
theorem dg_small : ∀ n : Nat, n < 10 → dg n = [48 + n] := fun n h => by
  unfold dg
  rw [Nat.toDigits_of_lt_base h]
  have : ∀ d : Fin 10, [Nat.digitChar d.val].map Char.toNat = [48 + d.val] := by decide
  exact this ⟨n, h⟩
theorem dg_big (n : Nat) (h : 10 ≤ n) : dg n = dg (n / 10) ++ [48 + n % 10] := by
  unfold dg
  rw [Nat.toDigits_of_base_le (by decide) h, List.map_append]
  congr 1
  have : ∀ d : Fin 10, [Nat.digitChar d.val].map Char.toNat = [48 + d.val] := by decide
  exact this ⟨n % 10, Nat.mod_lt _ (by decide)⟩
structure Good (l : List Nat) : Prop where
  ad : AllDigits l
  ne : l ≠ []
  hd : l.length > 1 → l[0]? ≠ some 48
theorem dg_good : ∀ n : Nat, Good (dg n) ∧ digitsVal (dg n) = n ∧ (n ≠ 0 → (dg n)[0]? ≠ some 48) := by
  intro n
  induction n using Nat.strongRecOn with
  | _ n ih =>
    by_cases h : n < 10
    · rw [dg_small n h]
      refine ⟨⟨fun c hc => ?_, by simp, fun q => by simp at q⟩, ?_, fun h0 => ?_⟩
      · rw [List.mem_singleton] at hc; omega
      · show 0 * 10 + (48 + n - 48) = n; omega
      · simp; omega
    · obtain ⟨g, v, z⟩ := ih (n / 10) (by omega)
      rw [dg_big n (by omega)]
      have hz := z (by omega)
      have hh : (dg (n / 10) ++ [48 + n % 10])[0]? = (dg (n / 10))[0]? := by
        rw [List.getElem?_append_left]
        exact List.length_pos_iff.mpr g.ne
      refine ⟨⟨fun c hc => ?_, by simp, fun _ => by rw [hh]; exact hz⟩, ?_, fun _ => by rw [hh]; exact hz⟩
      · rcases List.mem_append.mp hc with q | q
        · exact g.ad c q
        · rw [List.mem_singleton] at q; omega
      · rw [digitsVal_snoc, v]; omega
theorem dg_len {n k : Nat} (hk : 1 ≤ k) (h : n < 10 ^ k) : (dg n).length ≤ k := by
  unfold dg
  rw [List.length_map]
  exact (Nat.length_toDigits_le_iff (by decide) hk).mpr h
/-- a number's text -/
def sgl (i : Int) : List Nat := if i < 0 then 45 :: dg i.natAbs else dg i.natAbs
theorem txt_int (i : Int) : (Str.ofString (toString i)) = T (sgl i) := by
  rw [Str.ofString_eq_toList]
  unfold T sgl dg
  congr 2
  cases i with
  | ofNat m =>
    rw [if_neg (by simp)]
    have e : toString (Int.ofNat m) = Nat.repr m := rfl
    rw [e, Nat.toList_repr]
    rfl
  | negSucc m =>
    rw [if_pos (Int.negSucc_lt_zero m)]
    have e : toString (Int.negSucc m) = "-" ++ Nat.repr (m + 1) := rfl
    rw [e, String.toList_append, Nat.toList_repr, List.map_append]
    rfl
/-! ### comparing texts -/
theorem ok_T {l : List Nat} (h : ∀ c ∈ l, c < 1000) : PyData.strOk (T l) = true := by
  unfold PyData.strOk T
  rw [Array.all_eq_true']
  intro c hc
  have := h c (by simpa using hc)
  simp
  omega
theorem eqD_str {a b : List Nat} (ha : ∀ c ∈ a, c < 1000) (hb : ∀ c ∈ b, c < 1000) (h : List UO) : eqD h (.str (T a)) (.str (T b)) = some (decide (a = b)) := by
  have e : (T a == T b) = decide (a = b) := by
    rw [Bool.eq_iff_iff, beq_iff_eq, decide_eq_true_eq]
    exact ⟨T_inj, fun e => by rw [e]⟩
  show (match toD 20 h (.str (T a)), toD 20 h (.str (T b)) with | some d, some e => some (PyData.eqv d e) | _, _ => none) = _
  have d1 : toD 20 h (.str (T a)) = some (.str (T a)) := by show (if PyData.strOk (T a) = true then _ else _) = _; rw [if_pos (ok_T ha)]
  have d2 : toD 20 h (.str (T b)) = some (.str (T b)) := by show (if PyData.strOk (T b) = true then _ else _) = _; rw [if_pos (ok_T hb)]
  rw [d1, d2]
  show some (PyData.eqv (.str (T a)) (.str (T b))) = _
  unfold PyData.eqv
  rw [e]
theorem t_bar : Str.ofString "/" = T [47] := by decide +kernel
theorem ad_lt {l : List Nat} (h : AllDigits l) : ∀ c ∈ l, c < 1000 := fun c hc => by have := h c hc; omega
theorem szOk_of {n : Nat} (h : n ≤ 16777216) : szOk n = true := Nat.ble_eq_true_of_le h
theorem eqD_int (i j : Int) (h : List UO) : eqD h (.int i) (.int j) = some (i == j) := rfl
theorem dg40 {i : Int} (h : bd 220 i) : (dg i.natAbs).length ≤ 70 := dg_len (by decide) (Nat.lt_trans h (by decide +kernel))
theorem sgl40 {i : Int} (h : bd 220 i) : (sgl i).length ≤ 71 := by
  have := dg40 h
  unfold sgl
  split <;> simp <;> omega
theorem log40 {i : Int} (h : bd 220 i) : Nat.blt (Nat.log2 i.natAbs) 1920 = true := Nat.ble_eq_true_of_le (by have := bd_log h; omega)
theorem strI_ok {i : Int} (h : bd 220 i) (hp : List UO) : kStrI [.int i] hp = .ok (.str (T (sgl i))) hp := by
  show (match Nat.blt (Nat.log2 i.natAbs) 1920 with | true => Rs.ok (U.str (Str.ofString (toString i))) hp | false => .no) = _
  rw [log40 h, txt_int]
theorem fmt_ok {f : Ev} {us : Lo} {hp h1 : List UO} {i : Int} (e : f us hp = .ok (.int i) h1) (h : bd 220 i) : eFmt f us hp = .ok (.str (T (sgl i))) h1 := by
  unfold eFmt
  rw [e]
  show (match Nat.blt (Nat.log2 i.natAbs) 1920 with | true => Rs.ok (U.str (Str.ofString (toString i))) h1 | false => .no) = _
  rw [log40 h, txt_int]
theorem add_T {a b : List Nat} (h : a.length + b.length ≤ 10000) (hp : List UO) : kAdd (.str (T a)) (.str (T b)) hp = .ok (.str (T (a ++ b))) hp := by
  show (if szOk ((T a).length + (T b).length) then Rs.ok (U.str (T a ++ T b)) hp else .no) = _
  rw [T_len, T_len, if_pos (szOk_of (by omega)), T_app]
theorem js3 {f1 f2 f3 : Ev} {us : Lo} {hp : List UO} {a b c : List Nat} (e1 : f1 us hp = .ok (.str (T a)) hp) (e2 : f2 us hp = .ok (.str (T b)) hp) (e3 : f3 us hp = .ok (.str (T c)) hp) (hl : a.length + b.length + c.length ≤ 10000) :
    eJs [f1, f2, f3] Str.empty us hp = .ok (.str (T (a ++ b ++ c))) hp := by
  have z : ∀ x y : List Nat, x.length + y.length ≤ 10000 → szOk (T x ++ T y).length = true := fun x y h => szOk_of (by rw [T_app, T_len, List.length_append]; omega)
  have step : ∀ (f : Ev) (fs : List Ev) (x y : List Nat), f us hp = .ok (.str (T y)) hp → x.length + y.length ≤ 10000 → eJs (f :: fs) (T x) us hp = eJs fs (T (x ++ y)) us hp := fun f fs x y e h => by
    show (f us hp).bind (fun v h1 => match v with | .str y => (match szOk (T x ++ y).length with | true => eJs fs (T x ++ y) us h1 | false => .no) | _ => .no) = _
    rw [e]
    show (match szOk (T x ++ T y).length with | true => eJs fs (T x ++ T y) us hp | false => .no) = _
    rw [z x y h, T_app]
  have s0 : (Str.empty : Str) = T [] := rfl
  rw [s0, step f1 _ [] a e1 (by simp; omega), step f2 _ _ b e2 (by simp; omega), step f3 _ _ c e3 (by simp; omega)]
  rfl
/-- the written form -/
def fr (x y : Int) : List Nat := if y = 1 then sgl x else sgl x ++ [47] ++ sgl y
theorem str_ok {x y : Int} (hx : bd 220 x) (hy : bd 220 y) : F_Ratio_str [.ob 4 [.int x, .int y]] = .ok (.str (T (fr x y))) := by
  unfold fr
  have s1 := strI_ok hx []
  by_cases h : y = 1
  · rw [if_pos h]
    have h' : (y == 1) = true := by simpa using h
    simp [F_Ratio_str, runG, B_Ratio_str, startU, gSeq, gIf, bE, Fn.e1, Fn.e2, kFld, insU, eVar, eC, kEq, eqD_int, h', gRet, eCall, eCons, eNil, s1, Rs.bind, Rs.then, fin, frz]
  · rw [if_neg h]
    have h' : (y == 1) = false := by simpa using h
    have l1 := sgl40 hx
    have l2 := sgl40 hy
    have j := js3 (f1 := eFmt (e1 (kFld 4 0) (eVar 0))) (f2 := eC (.str "/")) (f3 := eFmt (e1 (kFld 4 1) (eVar 0))) (us := [some (.ob 4 [.int x, .int y])]) (hp := []) (a := sgl x) (b := [47]) (c := sgl y) (fmt_ok (by simp [e1, kFld, insU, eVar, Rs.bind]) hx) (by rw [← t_bar]; rfl) (fmt_ok (by simp [e1, kFld, insU, eVar, Rs.bind]) hy) (by simp; omega)
    simp only [F_Ratio_str, runG, B_Ratio_str, startU, gSeq, gIf, bE, Fn.e2, gRet]
    simp [Fn.e1, kFld, insU, eVar, eC, kEq, eqD_int, h', gNx, Rs.bind, Rs.then] at j ⊢
    rw [j]
    simp [fin, frz]
def bodyDiv : Sv := (gSeq (gIf (bE (e2 kEq (eVar 3) (eC (.int 0)))) gBk gNx)
  (gSeq (gSet 5 (e2 (kI cMod Int.fmod) (eCall kInt (eCons (eVar 2) eNil)) (eVar 3)))
  (gSeq (gSet 2 (eVar 3))
  (gSet 3 (eVar 5)))))
theorem divLoop (h : List UO) (s0 s1 : Option U) : ∀ (xs : List U) (a b : Nat) (t r : Option U), ∃ b' t' r', forL (aName 4) bodyDiv xs [s0, s1, some (.int a), some (.int b), t, r] h = .nx [s0, s1, some (.int (eu xs.length a b : Nat)), b', t', r'] h
  | [], a, b, t, r => ⟨_, _, _, rfl⟩
  | x :: xs, a, b, t, r => by
    by_cases hb : b = 0
    · subst hb
      refine ⟨some (.int ((0 : Nat) : Int)), some x, r, ?_⟩
      simp [forL, aName, bodyDiv, gSeq, gIf, bE, e2, kEq, eqD, eVar, eC, Rs.bind, Rs.then, gBk, eu]
    · obtain ⟨b', t', r', e⟩ := divLoop h s0 s1 xs b (a % b) (some x) (some (.int ((a % b : Nat) : Int)))
      refine ⟨b', t', r', ?_⟩
      have hb' : ((b : Int) == 0) = false := by simpa using hb
      have hm : ((a : Int).fmod (b : Int)) = ((a % b : Nat) : Int) := by rw [Int.fmod_eq_emod_of_nonneg _ (by omega)]; rfl
      simp only [forL, aName, bodyDiv, gSeq, gIf, bE, e2, kEq, eqD, eVar, eC, Rs.bind, Rs.then, gNx, gSet, eCall, eCons, eNil, kInt, kI, cMod, hb', hm]
      simp only [eu, List.length_cons, if_neg hb] at e ⊢
      simpa [bodyDiv, hb', hm] using e
/-- what both sides write -/
theorem written_ok (n d : Int) (hd : 0 < d) (n220 : bd 220 n) (d220 : bd 220 d) : F__law_written [.int n, .int d] = .ok (.str (T (fr (lo n d).1 (lo n d).2))) := by
  have d0 : d ≠ 0 := by omega
  have B := bd_lo (n := n) d0 n220 d220
  obtain ⟨b', t', r', e⟩ := divLoop [] (some (.int n)) (some (.int d)) (rgU 0 400) n.natAbs d.natAbs none none
  have hl : (rgU 0 400).length = 400 := by decide +kernel
  rw [hl, eu_gcd _ _ (bd_mono (by omega) d220)] at e
  have hr : rgOk 0 400 = true := by decide +kernel
  have ha : (if n < 0 then -n else n) = ((n.natAbs : Nat) : Int) := by split <;> omega
  have hdn : ((d.natAbs : Nat) : Int) = d := by omega
  have hsg : sg n d = ((Nat.gcd n.natAbs d.natAbs : Nat) : Int) := by unfold sg; rw [if_neg (by omega)]
  have g := bd_sg (n := n) d0 d220
  have c1 : ∀ x, cDivA x (sg n d) = true := fun x => c_div g.2 g.1 (by omega)
  have l1 : n.fdiv (sg n d) = (lo n d).1 := rfl
  have l2 : d.fdiv (sg n d) = (lo n d).2 := rfl
  rw [← hsg, hdn] at e
  unfold bodyDiv at e
  have s1 := strI_ok B.1 []
  have s2 := strI_ok B.2 []
  have z1 := sgl40 B.1
  have z2 := sgl40 B.2
  unfold fr
  generalize (lo n d).1 = x at *
  generalize (lo n d).2 = y at *
  have d1 := add_T (a := sgl x) (b := [47]) (by simp; omega) []
  have d2 := add_T (a := sgl x ++ [47]) (b := sgl y) (by simp; omega) []
  by_cases h : y = 1
  · rw [if_pos h]
    have h' : (y == 1) = true := by simpa using h
    simp [F__law_written, runG, B__law_written, startU, gSeq, gSet, gFor, ir1, hr, gIf, bE, Fn.e2, eVar, eC, kAbs, ha, e, kI, c1, l1, l2, kEq, eqD_int, h', gRet, eCall, eCons, eNil, s1, Rs.bind, Rs.then, fin, frz]
  · rw [if_neg h]
    have h' : (y == 1) = false := by simpa using h
    simp [F__law_written, runG, B__law_written, startU, gSeq, gSet, gFor, ir1, hr, gIf, bE, Fn.e2, eVar, eC, kAbs, ha, e, kI, c1, l1, l2, kEq, eqD_int, h', gNx, gRet, eCall, eCons, eNil, s1, s2, t_bar, d1, Rs.bind, Rs.then, fin, frz]
    rw [show sgl x ++ 47 :: sgl y = sgl x ++ [47] ++ sgl y by simp, d2]
end K83
namespace K83
open PySem Fn L2 PySem.NumText
/-! ### a cell, padded -/
def W (t : List Nat) (ts : List (List Nat)) : Int := maxI (t.length : Nat) (ts.map fun x => ((x.length : Nat) : Int))
theorem W_le {t : List Nat} {ts : List (List Nat)} (h : ∀ x ∈ t :: ts, x.length ≤ 200) : 0 ≤ W t ts ∧ W t ts ≤ 200 := by
  have m := (maxI_spec (ts.map fun x => ((x.length : Nat) : Int)) (t.length : Nat)).1
  unfold W
  have : ∃ x ∈ t :: ts, maxI (t.length : Nat) (ts.map fun x => ((x.length : Nat) : Int)) = ((x.length : Nat) : Int) := by
    rcases List.mem_cons.mp m with e | e
    · exact ⟨t, List.mem_cons_self, e⟩
    · obtain ⟨x, hx, e⟩ := List.mem_map.mp e
      exact ⟨x, List.mem_cons_of_mem _ hx, e.symm⟩
  obtain ⟨x, hx, e⟩ := this
  have := h x hx
  omega
theorem t_space : Str.ofString " " = T [32] := by decide +kernel
theorem padOk {w : Int} (h : 0 ≤ w ∧ w ≤ 200) : PadOk w = true := by
  obtain ⟨k, rfl⟩ := Int.eq_ofNat_of_zero_le h.1
  have : ∀ k : Fin 201, PadOk ((k.val : Nat) : Int) = true := by decide +kernel
  exact this ⟨k, by omega⟩
theorem rj_ok {t : List Nat} {w : Int} (hw : 0 ≤ w ∧ w ≤ 200) (h : List UO) : kRj (T t) (.int w) h = .ok (.str (Txt.rjust (T t) w)) h := by
  show (match PadOk w with | true => Rs.ok (U.str (Txt.rjust (T t) w)) h | false => .no) = _
  rw [padOk hw]
theorem mul_ok {t : List Nat} {w : Int} (hw : 0 ≤ w ∧ w ≤ 200) (ht : t.length ≤ 200) (h : List UO) : kMulW (.str (Str.ofString " ")) (.int (w - (t.length : Nat))) h = .ok (.str (Txt.mul (T [32]) (w - (t.length : Nat)))) h := by
  rw [t_space]
  have c : cMulS (T [32]) (w - (t.length : Nat)) = true := by
    unfold cMulS
    rw [Bool.and_eq_true]
    exact ⟨Nat.ble_eq_true_of_le (by omega), by decide⟩
  show (match cMulS (T [32]) (w - (t.length : Nat)) with | true => Rs.ok (U.str (Txt.mul (T [32]) (w - (t.length : Nat)))) h | false => .no) = _
  rw [c]
theorem rep_flat (k : Nat) : (List.replicate k (#[32] : Array Nat)).foldl (· ++ ·) #[] = (List.replicate k 32).toArray := by
  have : ∀ (k : Nat) (a : Array Nat), (List.replicate k (#[32] : Array Nat)).foldl (· ++ ·) a = a ++ (List.replicate k 32).toArray := by
    intro k
    induction k with
    | zero => intro a; simp
    | succ k ih => intro a; rw [List.replicate_succ, List.foldl_cons, ih, ← Array.toList_inj]; simp [List.replicate_succ]
  rw [this]; simp
theorem pad_T (t : List Nat) (w : Int) : Txt.rjust (T t) w = T (List.replicate (w - (t.length : Nat)).toNat 32 ++ t) := by
  unfold Txt.rjust
  by_cases h : w ≤ (T t).length
  · rw [if_pos h]
    rw [T_len] at h
    rw [show (w - (t.length : Nat)).toNat = 0 by omega]
    rfl
  · rw [if_neg h]
    rw [T_len] at h ⊢
    unfold Builtin.Str.padded T
    simp
theorem mul_T (t : List Nat) (w : Int) : Txt.mul (T [32]) (w - (t.length : Nat)) = T (List.replicate (w - (t.length : Nat)).toNat 32) := by
  unfold Txt.mul
  by_cases h : w - (t.length : Nat) < 1
  · rw [if_pos h, show (w - (t.length : Nat)).toNat = 0 by omega]; rfl
  · rw [if_neg h]
    by_cases h1 : w - (t.length : Nat) = 1
    · rw [h1]; rfl
    · rw [if_neg (by simp [h1, T_len])]
      unfold T
      rw [rep_flat]
theorem addp_ok {t : List Nat} {w : Int} (hw : 0 ≤ w ∧ w ≤ 200) (ht : t.length ≤ 200) (h : List UO) : kAdd (.str (Txt.mul (T [32]) (w - (t.length : Nat)))) (.str (T t)) h = .ok (.str (Txt.rjust (T t) w)) h := by
  rw [mul_T, pad_T]
  exact add_T (by rw [List.length_replicate]; omega) h
end K83
namespace K83
open PySem Fn L2 PySem.NumText
theorem rj_len {t : List Nat} {w : Int} (hw : 0 ≤ w ∧ w ≤ 200) (ht : t.length ≤ 200) : (Txt.rjust (T t) w).length ≤ 400 := by
  rw [pad_T, T_len, List.length_append, List.length_replicate]; omega
theorem join_ok {ys : List Str} {us : List U} (e : us = ys.map U.str) (hn : ys.length ≤ 3) (hl : ∀ y ∈ ys, y.length ≤ 400) (h : List UO) : kJoin (T [32]) (.fl us) h = .ok (.str (Txt.join (T [32]) ys)) h := by
  subst e
  have e1 : toStrs (ys.map U.str) = some ys := by
    induction ys with
    | nil => rfl
    | cons y r ih =>
      show (match toStrs (r.map U.str) with | some ys => some (y :: ys) | none => none) = _
      rw [ih (by simp at hn; omega) fun z hz => hl z (List.mem_cons_of_mem _ hz)]
  have e2 : ∀ l : List Str, (∀ y ∈ l, y.length ≤ 400) → (l.map (·.length)).sum ≤ 400 * l.length := by
    intro l
    induction l with
    | nil => intro _; simp
    | cons y r ih => intro h; have := ih fun z hz => h z (List.mem_cons_of_mem _ hz); have := h y List.mem_cons_self; simp; omega
  have e3 := e2 ys hl
  have e4 : Nat.ble ((ys.map (·.length)).sum + ys.length * (T [32]).length) 16777216 = true := Nat.ble_eq_true_of_le (by rw [T_len]; simp; omega)
  show (match toStrs (ys.map U.str) with | some ys => (match Nat.ble ((ys.map (fun y : Str => y.length)).sum + ys.length * (T [32]).length) 16777216 with | true => Rs.ok (U.str (Txt.join (T [32]) ys)) h | false => .no) | none => .no) = _
  rw [e1]
  dsimp only
  rw [e4]
theorem ml1 {x00 y00 : Int} {t00 : List Nat} (b00 : t00.length ≤ 200) (s00 : F_Ratio_str [.ob 4 [.int x00, .int y00]] = .ok (.str (T t00))) (h : List UO) :
    F_matrix_lines [.ob 5 [.int 1, .tup [.tup [.ob 4 [.int x00, .int y00]]]]] h = .ok (.ref h.length) (h ++ [.lst [.str (Txt.join (T [32]) [Txt.rjust (T t00) (maxI (t00.length : Nat) [])])]]) := by
  have w0 : 0 ≤ maxI (t00.length : Nat) [] ∧ maxI (t00.length : Nat) [] ≤ 200 := W_le (t := t00) (ts := []) (by simp; omega)
  have z00 : szOk t00.length = true := szOk_of (by omega)
  have j0 : ∀ h, kJoin (T [32]) (.fl [.str (Txt.rjust (T t00) (maxI (t00.length : Nat) []))]) h = .ok (.str (Txt.join (T [32]) [Txt.rjust (T t00) (maxI (t00.length : Nat) [])])) h := fun h => join_ok (ys := [Txt.rjust (T t00) (maxI (t00.length : Nat) [])]) rfl (by simp) (by simp; exact rj_len w0 b00) h
  have k00 : ∀ h, kRj (T t00) (.int (maxI (t00.length : Nat) [])) h = .ok (.str (Txt.rjust (T t00) (maxI (t00.length : Nat) []))) h := fun h => rj_ok w0 h
  have r1 : rgOk 0 1 = true := by decide +kernel
  have r2 : rgU 0 1 = [.int 0] := rfl
  have q1 : Nat.blt 1 16777216 = true := rfl
  simp [F_matrix_lines, runH, B_matrix_lines, startU, gSeq, gSet, gRet, eF, eT, eLc, lcS, lcL, bYes, wipeU, eOwnI, aName, eSeq, eStrO, eCons, eNil, eC, eVar, Fn.e1, Fn.e2, kG, isOb, pureU, ir1, kFld, insU, eCall, kMax, lstU, toInts, kLen, T_len, kIx, seqU, atU, eJoin, izip, zipU, aTup, aCons, aNil, eRj, t_space, Rs.bind, Rs.then, finH, fin, frz, mapO, r1, r2, q1, s00, z00, k00, j0]
theorem ml2 {x00 y00 x01 y01 x10 y10 x11 y11 : Int} {t00 t01 t10 t11 : List Nat} (b00 : t00.length ≤ 200) (b01 : t01.length ≤ 200) (b10 : t10.length ≤ 200) (b11 : t11.length ≤ 200) (s00 : F_Ratio_str [.ob 4 [.int x00, .int y00]] = .ok (.str (T t00))) (s01 : F_Ratio_str [.ob 4 [.int x01, .int y01]] = .ok (.str (T t01))) (s10 : F_Ratio_str [.ob 4 [.int x10, .int y10]] = .ok (.str (T t10))) (s11 : F_Ratio_str [.ob 4 [.int x11, .int y11]] = .ok (.str (T t11))) (h : List UO) :
    F_matrix_lines [.ob 5 [.int 2, .tup [.tup [.ob 4 [.int x00, .int y00], .ob 4 [.int x01, .int y01]], .tup [.ob 4 [.int x10, .int y10], .ob 4 [.int x11, .int y11]]]]] h = .ok (.ref h.length) (h ++ [.lst [.str (Txt.join (T [32]) [Txt.rjust (T t00) (maxI (t00.length : Nat) [((t10.length : Nat) : Int)]), Txt.rjust (T t01) (maxI (t01.length : Nat) [((t11.length : Nat) : Int)])]), .str (Txt.join (T [32]) [Txt.rjust (T t10) (maxI (t00.length : Nat) [((t10.length : Nat) : Int)]), Txt.rjust (T t11) (maxI (t01.length : Nat) [((t11.length : Nat) : Int)])])]]) := by
  have w0 : 0 ≤ maxI (t00.length : Nat) [((t10.length : Nat) : Int)] ∧ maxI (t00.length : Nat) [((t10.length : Nat) : Int)] ≤ 200 := W_le (t := t00) (ts := [t10]) (by simp; omega)
  have w1 : 0 ≤ maxI (t01.length : Nat) [((t11.length : Nat) : Int)] ∧ maxI (t01.length : Nat) [((t11.length : Nat) : Int)] ≤ 200 := W_le (t := t01) (ts := [t11]) (by simp; omega)
  have z00 : szOk t00.length = true := szOk_of (by omega)
  have z01 : szOk t01.length = true := szOk_of (by omega)
  have z10 : szOk t10.length = true := szOk_of (by omega)
  have z11 : szOk t11.length = true := szOk_of (by omega)
  have j0 : ∀ h, kJoin (T [32]) (.fl [.str (Txt.rjust (T t00) (maxI (t00.length : Nat) [((t10.length : Nat) : Int)])), .str (Txt.rjust (T t01) (maxI (t01.length : Nat) [((t11.length : Nat) : Int)]))]) h = .ok (.str (Txt.join (T [32]) [Txt.rjust (T t00) (maxI (t00.length : Nat) [((t10.length : Nat) : Int)]), Txt.rjust (T t01) (maxI (t01.length : Nat) [((t11.length : Nat) : Int)])])) h := fun h => join_ok (ys := [Txt.rjust (T t00) (maxI (t00.length : Nat) [((t10.length : Nat) : Int)]), Txt.rjust (T t01) (maxI (t01.length : Nat) [((t11.length : Nat) : Int)])]) rfl (by simp) (by simp; exact ⟨rj_len w0 b00, rj_len w1 b01⟩) h
  have j1 : ∀ h, kJoin (T [32]) (.fl [.str (Txt.rjust (T t10) (maxI (t00.length : Nat) [((t10.length : Nat) : Int)])), .str (Txt.rjust (T t11) (maxI (t01.length : Nat) [((t11.length : Nat) : Int)]))]) h = .ok (.str (Txt.join (T [32]) [Txt.rjust (T t10) (maxI (t00.length : Nat) [((t10.length : Nat) : Int)]), Txt.rjust (T t11) (maxI (t01.length : Nat) [((t11.length : Nat) : Int)])])) h := fun h => join_ok (ys := [Txt.rjust (T t10) (maxI (t00.length : Nat) [((t10.length : Nat) : Int)]), Txt.rjust (T t11) (maxI (t01.length : Nat) [((t11.length : Nat) : Int)])]) rfl (by simp) (by simp; exact ⟨rj_len w0 b10, rj_len w1 b11⟩) h
  have k00 : ∀ h, kRj (T t00) (.int (maxI (t00.length : Nat) [((t10.length : Nat) : Int)])) h = .ok (.str (Txt.rjust (T t00) (maxI (t00.length : Nat) [((t10.length : Nat) : Int)]))) h := fun h => rj_ok w0 h
  have k01 : ∀ h, kRj (T t01) (.int (maxI (t01.length : Nat) [((t11.length : Nat) : Int)])) h = .ok (.str (Txt.rjust (T t01) (maxI (t01.length : Nat) [((t11.length : Nat) : Int)]))) h := fun h => rj_ok w1 h
  have k10 : ∀ h, kRj (T t10) (.int (maxI (t00.length : Nat) [((t10.length : Nat) : Int)])) h = .ok (.str (Txt.rjust (T t10) (maxI (t00.length : Nat) [((t10.length : Nat) : Int)]))) h := fun h => rj_ok w0 h
  have k11 : ∀ h, kRj (T t11) (.int (maxI (t01.length : Nat) [((t11.length : Nat) : Int)])) h = .ok (.str (Txt.rjust (T t11) (maxI (t01.length : Nat) [((t11.length : Nat) : Int)]))) h := fun h => rj_ok w1 h
  have r1 : rgOk 0 2 = true := by decide +kernel
  have r2 : rgU 0 2 = [.int 0, .int 1] := rfl
  have q1 : Nat.blt 2 16777216 = true := rfl
  simp [F_matrix_lines, runH, B_matrix_lines, startU, gSeq, gSet, gRet, eF, eT, eLc, lcS, lcL, bYes, wipeU, eOwnI, aName, eSeq, eStrO, eCons, eNil, eC, eVar, Fn.e1, Fn.e2, kG, isOb, pureU, ir1, kFld, insU, eCall, kMax, lstU, toInts, kLen, T_len, kIx, seqU, atU, eJoin, izip, zipU, aTup, aCons, aNil, eRj, t_space, Rs.bind, Rs.then, finH, fin, frz, mapO, r1, r2, q1, s00, z00, k00, s01, z01, k01, s10, z10, k10, s11, z11, k11, j0, j1]
theorem ml3 {x00 y00 x01 y01 x02 y02 x10 y10 x11 y11 x12 y12 x20 y20 x21 y21 x22 y22 : Int} {t00 t01 t02 t10 t11 t12 t20 t21 t22 : List Nat} (b00 : t00.length ≤ 200) (b01 : t01.length ≤ 200) (b02 : t02.length ≤ 200) (b10 : t10.length ≤ 200) (b11 : t11.length ≤ 200) (b12 : t12.length ≤ 200) (b20 : t20.length ≤ 200) (b21 : t21.length ≤ 200) (b22 : t22.length ≤ 200) (s00 : F_Ratio_str [.ob 4 [.int x00, .int y00]] = .ok (.str (T t00))) (s01 : F_Ratio_str [.ob 4 [.int x01, .int y01]] = .ok (.str (T t01))) (s02 : F_Ratio_str [.ob 4 [.int x02, .int y02]] = .ok (.str (T t02))) (s10 : F_Ratio_str [.ob 4 [.int x10, .int y10]] = .ok (.str (T t10))) (s11 : F_Ratio_str [.ob 4 [.int x11, .int y11]] = .ok (.str (T t11))) (s12 : F_Ratio_str [.ob 4 [.int x12, .int y12]] = .ok (.str (T t12))) (s20 : F_Ratio_str [.ob 4 [.int x20, .int y20]] = .ok (.str (T t20))) (s21 : F_Ratio_str [.ob 4 [.int x21, .int y21]] = .ok (.str (T t21))) (s22 : F_Ratio_str [.ob 4 [.int x22, .int y22]] = .ok (.str (T t22))) (h : List UO) :
    F_matrix_lines [.ob 5 [.int 3, .tup [.tup [.ob 4 [.int x00, .int y00], .ob 4 [.int x01, .int y01], .ob 4 [.int x02, .int y02]], .tup [.ob 4 [.int x10, .int y10], .ob 4 [.int x11, .int y11], .ob 4 [.int x12, .int y12]], .tup [.ob 4 [.int x20, .int y20], .ob 4 [.int x21, .int y21], .ob 4 [.int x22, .int y22]]]]] h = .ok (.ref h.length) (h ++ [.lst [.str (Txt.join (T [32]) [Txt.rjust (T t00) (maxI (t00.length : Nat) [((t10.length : Nat) : Int), ((t20.length : Nat) : Int)]), Txt.rjust (T t01) (maxI (t01.length : Nat) [((t11.length : Nat) : Int), ((t21.length : Nat) : Int)]), Txt.rjust (T t02) (maxI (t02.length : Nat) [((t12.length : Nat) : Int), ((t22.length : Nat) : Int)])]), .str (Txt.join (T [32]) [Txt.rjust (T t10) (maxI (t00.length : Nat) [((t10.length : Nat) : Int), ((t20.length : Nat) : Int)]), Txt.rjust (T t11) (maxI (t01.length : Nat) [((t11.length : Nat) : Int), ((t21.length : Nat) : Int)]), Txt.rjust (T t12) (maxI (t02.length : Nat) [((t12.length : Nat) : Int), ((t22.length : Nat) : Int)])]), .str (Txt.join (T [32]) [Txt.rjust (T t20) (maxI (t00.length : Nat) [((t10.length : Nat) : Int), ((t20.length : Nat) : Int)]), Txt.rjust (T t21) (maxI (t01.length : Nat) [((t11.length : Nat) : Int), ((t21.length : Nat) : Int)]), Txt.rjust (T t22) (maxI (t02.length : Nat) [((t12.length : Nat) : Int), ((t22.length : Nat) : Int)])])]]) := by
  have w0 : 0 ≤ maxI (t00.length : Nat) [((t10.length : Nat) : Int), ((t20.length : Nat) : Int)] ∧ maxI (t00.length : Nat) [((t10.length : Nat) : Int), ((t20.length : Nat) : Int)] ≤ 200 := W_le (t := t00) (ts := [t10, t20]) (by simp; omega)
  have w1 : 0 ≤ maxI (t01.length : Nat) [((t11.length : Nat) : Int), ((t21.length : Nat) : Int)] ∧ maxI (t01.length : Nat) [((t11.length : Nat) : Int), ((t21.length : Nat) : Int)] ≤ 200 := W_le (t := t01) (ts := [t11, t21]) (by simp; omega)
  have w2 : 0 ≤ maxI (t02.length : Nat) [((t12.length : Nat) : Int), ((t22.length : Nat) : Int)] ∧ maxI (t02.length : Nat) [((t12.length : Nat) : Int), ((t22.length : Nat) : Int)] ≤ 200 := W_le (t := t02) (ts := [t12, t22]) (by simp; omega)
  have z00 : szOk t00.length = true := szOk_of (by omega)
  have z01 : szOk t01.length = true := szOk_of (by omega)
  have z02 : szOk t02.length = true := szOk_of (by omega)
  have z10 : szOk t10.length = true := szOk_of (by omega)
  have z11 : szOk t11.length = true := szOk_of (by omega)
  have z12 : szOk t12.length = true := szOk_of (by omega)
  have z20 : szOk t20.length = true := szOk_of (by omega)
  have z21 : szOk t21.length = true := szOk_of (by omega)
  have z22 : szOk t22.length = true := szOk_of (by omega)
  have j0 : ∀ h, kJoin (T [32]) (.fl [.str (Txt.rjust (T t00) (maxI (t00.length : Nat) [((t10.length : Nat) : Int), ((t20.length : Nat) : Int)])), .str (Txt.rjust (T t01) (maxI (t01.length : Nat) [((t11.length : Nat) : Int), ((t21.length : Nat) : Int)])), .str (Txt.rjust (T t02) (maxI (t02.length : Nat) [((t12.length : Nat) : Int), ((t22.length : Nat) : Int)]))]) h = .ok (.str (Txt.join (T [32]) [Txt.rjust (T t00) (maxI (t00.length : Nat) [((t10.length : Nat) : Int), ((t20.length : Nat) : Int)]), Txt.rjust (T t01) (maxI (t01.length : Nat) [((t11.length : Nat) : Int), ((t21.length : Nat) : Int)]), Txt.rjust (T t02) (maxI (t02.length : Nat) [((t12.length : Nat) : Int), ((t22.length : Nat) : Int)])])) h := fun h => join_ok (ys := [Txt.rjust (T t00) (maxI (t00.length : Nat) [((t10.length : Nat) : Int), ((t20.length : Nat) : Int)]), Txt.rjust (T t01) (maxI (t01.length : Nat) [((t11.length : Nat) : Int), ((t21.length : Nat) : Int)]), Txt.rjust (T t02) (maxI (t02.length : Nat) [((t12.length : Nat) : Int), ((t22.length : Nat) : Int)])]) rfl (by simp) (by simp; exact ⟨rj_len w0 b00, rj_len w1 b01, rj_len w2 b02⟩) h
  have j1 : ∀ h, kJoin (T [32]) (.fl [.str (Txt.rjust (T t10) (maxI (t00.length : Nat) [((t10.length : Nat) : Int), ((t20.length : Nat) : Int)])), .str (Txt.rjust (T t11) (maxI (t01.length : Nat) [((t11.length : Nat) : Int), ((t21.length : Nat) : Int)])), .str (Txt.rjust (T t12) (maxI (t02.length : Nat) [((t12.length : Nat) : Int), ((t22.length : Nat) : Int)]))]) h = .ok (.str (Txt.join (T [32]) [Txt.rjust (T t10) (maxI (t00.length : Nat) [((t10.length : Nat) : Int), ((t20.length : Nat) : Int)]), Txt.rjust (T t11) (maxI (t01.length : Nat) [((t11.length : Nat) : Int), ((t21.length : Nat) : Int)]), Txt.rjust (T t12) (maxI (t02.length : Nat) [((t12.length : Nat) : Int), ((t22.length : Nat) : Int)])])) h := fun h => join_ok (ys := [Txt.rjust (T t10) (maxI (t00.length : Nat) [((t10.length : Nat) : Int), ((t20.length : Nat) : Int)]), Txt.rjust (T t11) (maxI (t01.length : Nat) [((t11.length : Nat) : Int), ((t21.length : Nat) : Int)]), Txt.rjust (T t12) (maxI (t02.length : Nat) [((t12.length : Nat) : Int), ((t22.length : Nat) : Int)])]) rfl (by simp) (by simp; exact ⟨rj_len w0 b10, rj_len w1 b11, rj_len w2 b12⟩) h
  have j2 : ∀ h, kJoin (T [32]) (.fl [.str (Txt.rjust (T t20) (maxI (t00.length : Nat) [((t10.length : Nat) : Int), ((t20.length : Nat) : Int)])), .str (Txt.rjust (T t21) (maxI (t01.length : Nat) [((t11.length : Nat) : Int), ((t21.length : Nat) : Int)])), .str (Txt.rjust (T t22) (maxI (t02.length : Nat) [((t12.length : Nat) : Int), ((t22.length : Nat) : Int)]))]) h = .ok (.str (Txt.join (T [32]) [Txt.rjust (T t20) (maxI (t00.length : Nat) [((t10.length : Nat) : Int), ((t20.length : Nat) : Int)]), Txt.rjust (T t21) (maxI (t01.length : Nat) [((t11.length : Nat) : Int), ((t21.length : Nat) : Int)]), Txt.rjust (T t22) (maxI (t02.length : Nat) [((t12.length : Nat) : Int), ((t22.length : Nat) : Int)])])) h := fun h => join_ok (ys := [Txt.rjust (T t20) (maxI (t00.length : Nat) [((t10.length : Nat) : Int), ((t20.length : Nat) : Int)]), Txt.rjust (T t21) (maxI (t01.length : Nat) [((t11.length : Nat) : Int), ((t21.length : Nat) : Int)]), Txt.rjust (T t22) (maxI (t02.length : Nat) [((t12.length : Nat) : Int), ((t22.length : Nat) : Int)])]) rfl (by simp) (by simp; exact ⟨rj_len w0 b20, rj_len w1 b21, rj_len w2 b22⟩) h
  have k00 : ∀ h, kRj (T t00) (.int (maxI (t00.length : Nat) [((t10.length : Nat) : Int), ((t20.length : Nat) : Int)])) h = .ok (.str (Txt.rjust (T t00) (maxI (t00.length : Nat) [((t10.length : Nat) : Int), ((t20.length : Nat) : Int)]))) h := fun h => rj_ok w0 h
  have k01 : ∀ h, kRj (T t01) (.int (maxI (t01.length : Nat) [((t11.length : Nat) : Int), ((t21.length : Nat) : Int)])) h = .ok (.str (Txt.rjust (T t01) (maxI (t01.length : Nat) [((t11.length : Nat) : Int), ((t21.length : Nat) : Int)]))) h := fun h => rj_ok w1 h
  have k02 : ∀ h, kRj (T t02) (.int (maxI (t02.length : Nat) [((t12.length : Nat) : Int), ((t22.length : Nat) : Int)])) h = .ok (.str (Txt.rjust (T t02) (maxI (t02.length : Nat) [((t12.length : Nat) : Int), ((t22.length : Nat) : Int)]))) h := fun h => rj_ok w2 h
  have k10 : ∀ h, kRj (T t10) (.int (maxI (t00.length : Nat) [((t10.length : Nat) : Int), ((t20.length : Nat) : Int)])) h = .ok (.str (Txt.rjust (T t10) (maxI (t00.length : Nat) [((t10.length : Nat) : Int), ((t20.length : Nat) : Int)]))) h := fun h => rj_ok w0 h
  have k11 : ∀ h, kRj (T t11) (.int (maxI (t01.length : Nat) [((t11.length : Nat) : Int), ((t21.length : Nat) : Int)])) h = .ok (.str (Txt.rjust (T t11) (maxI (t01.length : Nat) [((t11.length : Nat) : Int), ((t21.length : Nat) : Int)]))) h := fun h => rj_ok w1 h
  have k12 : ∀ h, kRj (T t12) (.int (maxI (t02.length : Nat) [((t12.length : Nat) : Int), ((t22.length : Nat) : Int)])) h = .ok (.str (Txt.rjust (T t12) (maxI (t02.length : Nat) [((t12.length : Nat) : Int), ((t22.length : Nat) : Int)]))) h := fun h => rj_ok w2 h
  have k20 : ∀ h, kRj (T t20) (.int (maxI (t00.length : Nat) [((t10.length : Nat) : Int), ((t20.length : Nat) : Int)])) h = .ok (.str (Txt.rjust (T t20) (maxI (t00.length : Nat) [((t10.length : Nat) : Int), ((t20.length : Nat) : Int)]))) h := fun h => rj_ok w0 h
  have k21 : ∀ h, kRj (T t21) (.int (maxI (t01.length : Nat) [((t11.length : Nat) : Int), ((t21.length : Nat) : Int)])) h = .ok (.str (Txt.rjust (T t21) (maxI (t01.length : Nat) [((t11.length : Nat) : Int), ((t21.length : Nat) : Int)]))) h := fun h => rj_ok w1 h
  have k22 : ∀ h, kRj (T t22) (.int (maxI (t02.length : Nat) [((t12.length : Nat) : Int), ((t22.length : Nat) : Int)])) h = .ok (.str (Txt.rjust (T t22) (maxI (t02.length : Nat) [((t12.length : Nat) : Int), ((t22.length : Nat) : Int)]))) h := fun h => rj_ok w2 h
  have r1 : rgOk 0 3 = true := by decide +kernel
  have r2 : rgU 0 3 = [.int 0, .int 1, .int 2] := rfl
  have q1 : Nat.blt 3 16777216 = true := rfl
  simp [F_matrix_lines, runH, B_matrix_lines, startU, gSeq, gSet, gRet, eF, eT, eLc, lcS, lcL, bYes, wipeU, eOwnI, aName, eSeq, eStrO, eCons, eNil, eC, eVar, Fn.e1, Fn.e2, kG, isOb, pureU, ir1, kFld, insU, eCall, kMax, lstU, toInts, kLen, T_len, kIx, seqU, atU, eJoin, izip, zipU, aTup, aCons, aNil, eRj, t_space, Rs.bind, Rs.then, finH, fin, frz, mapO, r1, r2, q1, s00, z00, k00, s01, z01, k01, s02, z02, k02, s10, z10, k10, s11, z11, k11, s12, z12, k12, s20, z20, k20, s21, z21, k21, s22, z22, k22, j0, j1, j2]
end K83
namespace K83
open PySem Fn L2 PySem.NumText
theorem kJoin_ref (a : Str) (p : Nat) (h : List UO) : kJoin a (.ref p) h = (match h[p]? with | some (.lst xs) => kJoin a (.fl xs) h | _ => .no) := by
  have e : seqU h (.ref p) = (match h[p]? with | some (.lst xs) => some xs | _ => none) := rfl
  unfold kJoin
  rw [e]
  generalize h[p]? = q
  cases q with
  | none => rfl
  | some o => cases o <;> rfl
theorem lcD_100000 (it : Nat → List UO → Option (Option U)) (tg : Tgt) (tests : EvB) (elt : Ev) (us : Lo) (i : Nat) (h : List UO) : lcD it tg tests elt us 100000 i h = (match it i h with
    | none => .no
    | some none => .ok [] h
    | some (some x) => match tg x us with
      | none => .no
      | some us1 => match tests us1 h with
        | .ok true h1 => (match elt us1 h1 with
          | .ok y h2 => (match lcD it tg tests elt us 99999 (i + 1) h2 with | .ok ys h3 => .ok (y :: ys) h3 | _ => .no)
          | _ => .no)
        | .ok false h1 => lcD it tg tests elt us 99999 (i + 1) h1
        | _ => .no) := by
  show lcD it tg tests elt us (99999 + 1) i h = _
  rw [lcD] <;> rfl
theorem forD_100000 (it : Nat → List UO → Option (Option U)) (tg : Tgt) (body : Sv) (i : Nat) (us : Lo) (h : List UO) : forD it tg body 100000 i us h = (match it i h with
    | none => .no
    | some none => .nx us h
    | some (some x) => match tg x us with
      | none => .no
      | some us1 => match body us1 h with
        | .nx us2 h2 => forD it tg body 99999 (i + 1) us2 h2
        | .ct us2 h2 => forD it tg body 99999 (i + 1) us2 h2
        | .bk us2 h2 => .nx us2 h2
        | q => q) := by
  show forD it tg body (99999 + 1) i us h = _
  rw [forD] <;> rfl
theorem lcD_99999 (it : Nat → List UO → Option (Option U)) (tg : Tgt) (tests : EvB) (elt : Ev) (us : Lo) (i : Nat) (h : List UO) : lcD it tg tests elt us 99999 i h = (match it i h with
    | none => .no
    | some none => .ok [] h
    | some (some x) => match tg x us with
      | none => .no
      | some us1 => match tests us1 h with
        | .ok true h1 => (match elt us1 h1 with
          | .ok y h2 => (match lcD it tg tests elt us 99998 (i + 1) h2 with | .ok ys h3 => .ok (y :: ys) h3 | _ => .no)
          | _ => .no)
        | .ok false h1 => lcD it tg tests elt us 99998 (i + 1) h1
        | _ => .no) := by
  show lcD it tg tests elt us (99998 + 1) i h = _
  rw [lcD] <;> rfl
theorem forD_99999 (it : Nat → List UO → Option (Option U)) (tg : Tgt) (body : Sv) (i : Nat) (us : Lo) (h : List UO) : forD it tg body 99999 i us h = (match it i h with
    | none => .no
    | some none => .nx us h
    | some (some x) => match tg x us with
      | none => .no
      | some us1 => match body us1 h with
        | .nx us2 h2 => forD it tg body 99998 (i + 1) us2 h2
        | .ct us2 h2 => forD it tg body 99998 (i + 1) us2 h2
        | .bk us2 h2 => .nx us2 h2
        | q => q) := by
  show forD it tg body (99998 + 1) i us h = _
  rw [forD] <;> rfl
theorem lcD_99998 (it : Nat → List UO → Option (Option U)) (tg : Tgt) (tests : EvB) (elt : Ev) (us : Lo) (i : Nat) (h : List UO) : lcD it tg tests elt us 99998 i h = (match it i h with
    | none => .no
    | some none => .ok [] h
    | some (some x) => match tg x us with
      | none => .no
      | some us1 => match tests us1 h with
        | .ok true h1 => (match elt us1 h1 with
          | .ok y h2 => (match lcD it tg tests elt us 99997 (i + 1) h2 with | .ok ys h3 => .ok (y :: ys) h3 | _ => .no)
          | _ => .no)
        | .ok false h1 => lcD it tg tests elt us 99997 (i + 1) h1
        | _ => .no) := by
  show lcD it tg tests elt us (99997 + 1) i h = _
  rw [lcD] <;> rfl
theorem forD_99998 (it : Nat → List UO → Option (Option U)) (tg : Tgt) (body : Sv) (i : Nat) (us : Lo) (h : List UO) : forD it tg body 99998 i us h = (match it i h with
    | none => .no
    | some none => .nx us h
    | some (some x) => match tg x us with
      | none => .no
      | some us1 => match body us1 h with
        | .nx us2 h2 => forD it tg body 99997 (i + 1) us2 h2
        | .ct us2 h2 => forD it tg body 99997 (i + 1) us2 h2
        | .bk us2 h2 => .nx us2 h2
        | q => q) := by
  show forD it tg body (99997 + 1) i us h = _
  rw [forD] <;> rfl
theorem lcD_99997 (it : Nat → List UO → Option (Option U)) (tg : Tgt) (tests : EvB) (elt : Ev) (us : Lo) (i : Nat) (h : List UO) : lcD it tg tests elt us 99997 i h = (match it i h with
    | none => .no
    | some none => .ok [] h
    | some (some x) => match tg x us with
      | none => .no
      | some us1 => match tests us1 h with
        | .ok true h1 => (match elt us1 h1 with
          | .ok y h2 => (match lcD it tg tests elt us 99996 (i + 1) h2 with | .ok ys h3 => .ok (y :: ys) h3 | _ => .no)
          | _ => .no)
        | .ok false h1 => lcD it tg tests elt us 99996 (i + 1) h1
        | _ => .no) := by
  show lcD it tg tests elt us (99996 + 1) i h = _
  rw [lcD] <;> rfl
theorem forD_99997 (it : Nat → List UO → Option (Option U)) (tg : Tgt) (body : Sv) (i : Nat) (us : Lo) (h : List UO) : forD it tg body 99997 i us h = (match it i h with
    | none => .no
    | some none => .nx us h
    | some (some x) => match tg x us with
      | none => .no
      | some us1 => match body us1 h with
        | .nx us2 h2 => forD it tg body 99996 (i + 1) us2 h2
        | .ct us2 h2 => forD it tg body 99996 (i + 1) us2 h2
        | .bk us2 h2 => .nx us2 h2
        | q => q) := by
  show forD it tg body (99996 + 1) i us h = _
  rw [forD] <;> rfl
theorem mul_ok' {t : List Nat} {w : Int} (hw : 0 ≤ w ∧ w ≤ 200) (ht : t.length ≤ 200) (h : List UO) : kMulW (.str (T [32])) (.int (w - (t.length : Nat))) h = .ok (.str (Txt.mul (T [32]) (w - (t.length : Nat)))) h := by
  rw [← t_space, mul_ok hw ht, t_space]
theorem ll1 {x00 y00 : Int} {t00 : List Nat} (b00 : t00.length ≤ 200) (s00 : F__law_written [.int x00, .int y00] = .ok (.str (T t00))) :
    F__law_lines [.fl [.fl [.fl [.int x00, .int y00]]]] = .ok (.fl [.str (Txt.join (T [32]) [Txt.rjust (T t00) (maxI (t00.length : Nat) [])])]) := by
  have w0 : 0 ≤ maxI (t00.length : Nat) [] ∧ maxI (t00.length : Nat) [] ≤ 200 := W_le (t := t00) (ts := []) (by simp; omega)
  have z00 : szOk t00.length = true := szOk_of (by omega)
  have j0 : ∀ h, kJoin (T [32]) (.fl [.str (Txt.rjust (T t00) (maxI (t00.length : Nat) []))]) h = .ok (.str (Txt.join (T [32]) [Txt.rjust (T t00) (maxI (t00.length : Nat) [])])) h := fun h => join_ok (ys := [Txt.rjust (T t00) (maxI (t00.length : Nat) [])]) rfl (by simp) (by simp; exact rj_len w0 b00) h
  have m00 : ∀ h, kMulW (.str (T [32])) (.int (maxI (t00.length : Nat) [] - (t00.length : Nat))) h = .ok (.str (Txt.mul (T [32]) (maxI (t00.length : Nat) [] - (t00.length : Nat)))) h := fun h => mul_ok' w0 b00 h
  have a00 : ∀ h, kAdd (.str (Txt.mul (T [32]) (maxI (t00.length : Nat) [] - (t00.length : Nat)))) (.str (T t00)) h = .ok (.str (Txt.rjust (T t00) (maxI (t00.length : Nat) []))) h := fun h => addp_ok w0 b00 h
  have r1 : rgOk 0 1 = true := by decide +kernel
  have r2 : rgU 0 1 = [.int 0] := rfl
  have q1 : Nat.blt 1 16777216 = true := rfl
  have u0 : szOk 0 = true := by decide
  have u1 : szOk 1 = true := by decide
  have u2 : szOk 2 = true := by decide
  have u3 : szOk 3 = true := by decide
  simp [F__law_lines, runG, B__law_lines, startU, gSeq, gSet, gRet, gEx, gFor, forL, eF, eT, eLst, eLc, lcS, lcL, dynL, lcD_100000, lcD_99999, lcD_99998, lcD_99997, forD_100000, forD_99999, forD_99998, forD_99997, bYes, wipeU, aName, aLst, aCons, aNil, eSeq, eCons, eNil, eC, eVar, eCallG, eMt, kAppend, Fn.e1, Fn.e2, pureU, ir1, eCall, kMax, lstU, toInts, kLen, T_len, kIx, seqU, atU, kI0, eJoin, kJoin_ref, t_space, Rs.bind, Rs.then, fin, frz, mapO, r1, r2, q1, u0, u1, u2, u3, s00, z00, m00, a00, j0]
theorem ll2 {x00 y00 x01 y01 x10 y10 x11 y11 : Int} {t00 t01 t10 t11 : List Nat} (b00 : t00.length ≤ 200) (b01 : t01.length ≤ 200) (b10 : t10.length ≤ 200) (b11 : t11.length ≤ 200) (s00 : F__law_written [.int x00, .int y00] = .ok (.str (T t00))) (s01 : F__law_written [.int x01, .int y01] = .ok (.str (T t01))) (s10 : F__law_written [.int x10, .int y10] = .ok (.str (T t10))) (s11 : F__law_written [.int x11, .int y11] = .ok (.str (T t11))) :
    F__law_lines [.fl [.fl [.fl [.int x00, .int y00], .fl [.int x01, .int y01]], .fl [.fl [.int x10, .int y10], .fl [.int x11, .int y11]]]] = .ok (.fl [.str (Txt.join (T [32]) [Txt.rjust (T t00) (maxI (t00.length : Nat) [((t10.length : Nat) : Int)]), Txt.rjust (T t01) (maxI (t01.length : Nat) [((t11.length : Nat) : Int)])]), .str (Txt.join (T [32]) [Txt.rjust (T t10) (maxI (t00.length : Nat) [((t10.length : Nat) : Int)]), Txt.rjust (T t11) (maxI (t01.length : Nat) [((t11.length : Nat) : Int)])])]) := by
  have w0 : 0 ≤ maxI (t00.length : Nat) [((t10.length : Nat) : Int)] ∧ maxI (t00.length : Nat) [((t10.length : Nat) : Int)] ≤ 200 := W_le (t := t00) (ts := [t10]) (by simp; omega)
  have w1 : 0 ≤ maxI (t01.length : Nat) [((t11.length : Nat) : Int)] ∧ maxI (t01.length : Nat) [((t11.length : Nat) : Int)] ≤ 200 := W_le (t := t01) (ts := [t11]) (by simp; omega)
  have z00 : szOk t00.length = true := szOk_of (by omega)
  have z01 : szOk t01.length = true := szOk_of (by omega)
  have z10 : szOk t10.length = true := szOk_of (by omega)
  have z11 : szOk t11.length = true := szOk_of (by omega)
  have j0 : ∀ h, kJoin (T [32]) (.fl [.str (Txt.rjust (T t00) (maxI (t00.length : Nat) [((t10.length : Nat) : Int)])), .str (Txt.rjust (T t01) (maxI (t01.length : Nat) [((t11.length : Nat) : Int)]))]) h = .ok (.str (Txt.join (T [32]) [Txt.rjust (T t00) (maxI (t00.length : Nat) [((t10.length : Nat) : Int)]), Txt.rjust (T t01) (maxI (t01.length : Nat) [((t11.length : Nat) : Int)])])) h := fun h => join_ok (ys := [Txt.rjust (T t00) (maxI (t00.length : Nat) [((t10.length : Nat) : Int)]), Txt.rjust (T t01) (maxI (t01.length : Nat) [((t11.length : Nat) : Int)])]) rfl (by simp) (by simp; exact ⟨rj_len w0 b00, rj_len w1 b01⟩) h
  have j1 : ∀ h, kJoin (T [32]) (.fl [.str (Txt.rjust (T t10) (maxI (t00.length : Nat) [((t10.length : Nat) : Int)])), .str (Txt.rjust (T t11) (maxI (t01.length : Nat) [((t11.length : Nat) : Int)]))]) h = .ok (.str (Txt.join (T [32]) [Txt.rjust (T t10) (maxI (t00.length : Nat) [((t10.length : Nat) : Int)]), Txt.rjust (T t11) (maxI (t01.length : Nat) [((t11.length : Nat) : Int)])])) h := fun h => join_ok (ys := [Txt.rjust (T t10) (maxI (t00.length : Nat) [((t10.length : Nat) : Int)]), Txt.rjust (T t11) (maxI (t01.length : Nat) [((t11.length : Nat) : Int)])]) rfl (by simp) (by simp; exact ⟨rj_len w0 b10, rj_len w1 b11⟩) h
  have m00 : ∀ h, kMulW (.str (T [32])) (.int (maxI (t00.length : Nat) [((t10.length : Nat) : Int)] - (t00.length : Nat))) h = .ok (.str (Txt.mul (T [32]) (maxI (t00.length : Nat) [((t10.length : Nat) : Int)] - (t00.length : Nat)))) h := fun h => mul_ok' w0 b00 h
  have a00 : ∀ h, kAdd (.str (Txt.mul (T [32]) (maxI (t00.length : Nat) [((t10.length : Nat) : Int)] - (t00.length : Nat)))) (.str (T t00)) h = .ok (.str (Txt.rjust (T t00) (maxI (t00.length : Nat) [((t10.length : Nat) : Int)]))) h := fun h => addp_ok w0 b00 h
  have m01 : ∀ h, kMulW (.str (T [32])) (.int (maxI (t01.length : Nat) [((t11.length : Nat) : Int)] - (t01.length : Nat))) h = .ok (.str (Txt.mul (T [32]) (maxI (t01.length : Nat) [((t11.length : Nat) : Int)] - (t01.length : Nat)))) h := fun h => mul_ok' w1 b01 h
  have a01 : ∀ h, kAdd (.str (Txt.mul (T [32]) (maxI (t01.length : Nat) [((t11.length : Nat) : Int)] - (t01.length : Nat)))) (.str (T t01)) h = .ok (.str (Txt.rjust (T t01) (maxI (t01.length : Nat) [((t11.length : Nat) : Int)]))) h := fun h => addp_ok w1 b01 h
  have m10 : ∀ h, kMulW (.str (T [32])) (.int (maxI (t00.length : Nat) [((t10.length : Nat) : Int)] - (t10.length : Nat))) h = .ok (.str (Txt.mul (T [32]) (maxI (t00.length : Nat) [((t10.length : Nat) : Int)] - (t10.length : Nat)))) h := fun h => mul_ok' w0 b10 h
  have a10 : ∀ h, kAdd (.str (Txt.mul (T [32]) (maxI (t00.length : Nat) [((t10.length : Nat) : Int)] - (t10.length : Nat)))) (.str (T t10)) h = .ok (.str (Txt.rjust (T t10) (maxI (t00.length : Nat) [((t10.length : Nat) : Int)]))) h := fun h => addp_ok w0 b10 h
  have m11 : ∀ h, kMulW (.str (T [32])) (.int (maxI (t01.length : Nat) [((t11.length : Nat) : Int)] - (t11.length : Nat))) h = .ok (.str (Txt.mul (T [32]) (maxI (t01.length : Nat) [((t11.length : Nat) : Int)] - (t11.length : Nat)))) h := fun h => mul_ok' w1 b11 h
  have a11 : ∀ h, kAdd (.str (Txt.mul (T [32]) (maxI (t01.length : Nat) [((t11.length : Nat) : Int)] - (t11.length : Nat)))) (.str (T t11)) h = .ok (.str (Txt.rjust (T t11) (maxI (t01.length : Nat) [((t11.length : Nat) : Int)]))) h := fun h => addp_ok w1 b11 h
  have r1 : rgOk 0 2 = true := by decide +kernel
  have r2 : rgU 0 2 = [.int 0, .int 1] := rfl
  have q1 : Nat.blt 2 16777216 = true := rfl
  have u0 : szOk 0 = true := by decide
  have u1 : szOk 1 = true := by decide
  have u2 : szOk 2 = true := by decide
  have u3 : szOk 3 = true := by decide
  simp [F__law_lines, runG, B__law_lines, startU, gSeq, gSet, gRet, gEx, gFor, forL, eF, eT, eLst, eLc, lcS, lcL, dynL, lcD_100000, lcD_99999, lcD_99998, lcD_99997, forD_100000, forD_99999, forD_99998, forD_99997, bYes, wipeU, aName, aLst, aCons, aNil, eSeq, eCons, eNil, eC, eVar, eCallG, eMt, kAppend, Fn.e1, Fn.e2, pureU, ir1, eCall, kMax, lstU, toInts, kLen, T_len, kIx, seqU, atU, kI0, eJoin, kJoin_ref, t_space, Rs.bind, Rs.then, fin, frz, mapO, r1, r2, q1, u0, u1, u2, u3, s00, z00, m00, a00, s01, z01, m01, a01, s10, z10, m10, a10, s11, z11, m11, a11, j0, j1]
theorem ll3 {x00 y00 x01 y01 x02 y02 x10 y10 x11 y11 x12 y12 x20 y20 x21 y21 x22 y22 : Int} {t00 t01 t02 t10 t11 t12 t20 t21 t22 : List Nat} (b00 : t00.length ≤ 200) (b01 : t01.length ≤ 200) (b02 : t02.length ≤ 200) (b10 : t10.length ≤ 200) (b11 : t11.length ≤ 200) (b12 : t12.length ≤ 200) (b20 : t20.length ≤ 200) (b21 : t21.length ≤ 200) (b22 : t22.length ≤ 200) (s00 : F__law_written [.int x00, .int y00] = .ok (.str (T t00))) (s01 : F__law_written [.int x01, .int y01] = .ok (.str (T t01))) (s02 : F__law_written [.int x02, .int y02] = .ok (.str (T t02))) (s10 : F__law_written [.int x10, .int y10] = .ok (.str (T t10))) (s11 : F__law_written [.int x11, .int y11] = .ok (.str (T t11))) (s12 : F__law_written [.int x12, .int y12] = .ok (.str (T t12))) (s20 : F__law_written [.int x20, .int y20] = .ok (.str (T t20))) (s21 : F__law_written [.int x21, .int y21] = .ok (.str (T t21))) (s22 : F__law_written [.int x22, .int y22] = .ok (.str (T t22))) :
    F__law_lines [.fl [.fl [.fl [.int x00, .int y00], .fl [.int x01, .int y01], .fl [.int x02, .int y02]], .fl [.fl [.int x10, .int y10], .fl [.int x11, .int y11], .fl [.int x12, .int y12]], .fl [.fl [.int x20, .int y20], .fl [.int x21, .int y21], .fl [.int x22, .int y22]]]] = .ok (.fl [.str (Txt.join (T [32]) [Txt.rjust (T t00) (maxI (t00.length : Nat) [((t10.length : Nat) : Int), ((t20.length : Nat) : Int)]), Txt.rjust (T t01) (maxI (t01.length : Nat) [((t11.length : Nat) : Int), ((t21.length : Nat) : Int)]), Txt.rjust (T t02) (maxI (t02.length : Nat) [((t12.length : Nat) : Int), ((t22.length : Nat) : Int)])]), .str (Txt.join (T [32]) [Txt.rjust (T t10) (maxI (t00.length : Nat) [((t10.length : Nat) : Int), ((t20.length : Nat) : Int)]), Txt.rjust (T t11) (maxI (t01.length : Nat) [((t11.length : Nat) : Int), ((t21.length : Nat) : Int)]), Txt.rjust (T t12) (maxI (t02.length : Nat) [((t12.length : Nat) : Int), ((t22.length : Nat) : Int)])]), .str (Txt.join (T [32]) [Txt.rjust (T t20) (maxI (t00.length : Nat) [((t10.length : Nat) : Int), ((t20.length : Nat) : Int)]), Txt.rjust (T t21) (maxI (t01.length : Nat) [((t11.length : Nat) : Int), ((t21.length : Nat) : Int)]), Txt.rjust (T t22) (maxI (t02.length : Nat) [((t12.length : Nat) : Int), ((t22.length : Nat) : Int)])])]) := by
  have w0 : 0 ≤ maxI (t00.length : Nat) [((t10.length : Nat) : Int), ((t20.length : Nat) : Int)] ∧ maxI (t00.length : Nat) [((t10.length : Nat) : Int), ((t20.length : Nat) : Int)] ≤ 200 := W_le (t := t00) (ts := [t10, t20]) (by simp; omega)
  have w1 : 0 ≤ maxI (t01.length : Nat) [((t11.length : Nat) : Int), ((t21.length : Nat) : Int)] ∧ maxI (t01.length : Nat) [((t11.length : Nat) : Int), ((t21.length : Nat) : Int)] ≤ 200 := W_le (t := t01) (ts := [t11, t21]) (by simp; omega)
  have w2 : 0 ≤ maxI (t02.length : Nat) [((t12.length : Nat) : Int), ((t22.length : Nat) : Int)] ∧ maxI (t02.length : Nat) [((t12.length : Nat) : Int), ((t22.length : Nat) : Int)] ≤ 200 := W_le (t := t02) (ts := [t12, t22]) (by simp; omega)
  have z00 : szOk t00.length = true := szOk_of (by omega)
  have z01 : szOk t01.length = true := szOk_of (by omega)
  have z02 : szOk t02.length = true := szOk_of (by omega)
  have z10 : szOk t10.length = true := szOk_of (by omega)
  have z11 : szOk t11.length = true := szOk_of (by omega)
  have z12 : szOk t12.length = true := szOk_of (by omega)
  have z20 : szOk t20.length = true := szOk_of (by omega)
  have z21 : szOk t21.length = true := szOk_of (by omega)
  have z22 : szOk t22.length = true := szOk_of (by omega)
  have j0 : ∀ h, kJoin (T [32]) (.fl [.str (Txt.rjust (T t00) (maxI (t00.length : Nat) [((t10.length : Nat) : Int), ((t20.length : Nat) : Int)])), .str (Txt.rjust (T t01) (maxI (t01.length : Nat) [((t11.length : Nat) : Int), ((t21.length : Nat) : Int)])), .str (Txt.rjust (T t02) (maxI (t02.length : Nat) [((t12.length : Nat) : Int), ((t22.length : Nat) : Int)]))]) h = .ok (.str (Txt.join (T [32]) [Txt.rjust (T t00) (maxI (t00.length : Nat) [((t10.length : Nat) : Int), ((t20.length : Nat) : Int)]), Txt.rjust (T t01) (maxI (t01.length : Nat) [((t11.length : Nat) : Int), ((t21.length : Nat) : Int)]), Txt.rjust (T t02) (maxI (t02.length : Nat) [((t12.length : Nat) : Int), ((t22.length : Nat) : Int)])])) h := fun h => join_ok (ys := [Txt.rjust (T t00) (maxI (t00.length : Nat) [((t10.length : Nat) : Int), ((t20.length : Nat) : Int)]), Txt.rjust (T t01) (maxI (t01.length : Nat) [((t11.length : Nat) : Int), ((t21.length : Nat) : Int)]), Txt.rjust (T t02) (maxI (t02.length : Nat) [((t12.length : Nat) : Int), ((t22.length : Nat) : Int)])]) rfl (by simp) (by simp; exact ⟨rj_len w0 b00, rj_len w1 b01, rj_len w2 b02⟩) h
  have j1 : ∀ h, kJoin (T [32]) (.fl [.str (Txt.rjust (T t10) (maxI (t00.length : Nat) [((t10.length : Nat) : Int), ((t20.length : Nat) : Int)])), .str (Txt.rjust (T t11) (maxI (t01.length : Nat) [((t11.length : Nat) : Int), ((t21.length : Nat) : Int)])), .str (Txt.rjust (T t12) (maxI (t02.length : Nat) [((t12.length : Nat) : Int), ((t22.length : Nat) : Int)]))]) h = .ok (.str (Txt.join (T [32]) [Txt.rjust (T t10) (maxI (t00.length : Nat) [((t10.length : Nat) : Int), ((t20.length : Nat) : Int)]), Txt.rjust (T t11) (maxI (t01.length : Nat) [((t11.length : Nat) : Int), ((t21.length : Nat) : Int)]), Txt.rjust (T t12) (maxI (t02.length : Nat) [((t12.length : Nat) : Int), ((t22.length : Nat) : Int)])])) h := fun h => join_ok (ys := [Txt.rjust (T t10) (maxI (t00.length : Nat) [((t10.length : Nat) : Int), ((t20.length : Nat) : Int)]), Txt.rjust (T t11) (maxI (t01.length : Nat) [((t11.length : Nat) : Int), ((t21.length : Nat) : Int)]), Txt.rjust (T t12) (maxI (t02.length : Nat) [((t12.length : Nat) : Int), ((t22.length : Nat) : Int)])]) rfl (by simp) (by simp; exact ⟨rj_len w0 b10, rj_len w1 b11, rj_len w2 b12⟩) h
  have j2 : ∀ h, kJoin (T [32]) (.fl [.str (Txt.rjust (T t20) (maxI (t00.length : Nat) [((t10.length : Nat) : Int), ((t20.length : Nat) : Int)])), .str (Txt.rjust (T t21) (maxI (t01.length : Nat) [((t11.length : Nat) : Int), ((t21.length : Nat) : Int)])), .str (Txt.rjust (T t22) (maxI (t02.length : Nat) [((t12.length : Nat) : Int), ((t22.length : Nat) : Int)]))]) h = .ok (.str (Txt.join (T [32]) [Txt.rjust (T t20) (maxI (t00.length : Nat) [((t10.length : Nat) : Int), ((t20.length : Nat) : Int)]), Txt.rjust (T t21) (maxI (t01.length : Nat) [((t11.length : Nat) : Int), ((t21.length : Nat) : Int)]), Txt.rjust (T t22) (maxI (t02.length : Nat) [((t12.length : Nat) : Int), ((t22.length : Nat) : Int)])])) h := fun h => join_ok (ys := [Txt.rjust (T t20) (maxI (t00.length : Nat) [((t10.length : Nat) : Int), ((t20.length : Nat) : Int)]), Txt.rjust (T t21) (maxI (t01.length : Nat) [((t11.length : Nat) : Int), ((t21.length : Nat) : Int)]), Txt.rjust (T t22) (maxI (t02.length : Nat) [((t12.length : Nat) : Int), ((t22.length : Nat) : Int)])]) rfl (by simp) (by simp; exact ⟨rj_len w0 b20, rj_len w1 b21, rj_len w2 b22⟩) h
  have m00 : ∀ h, kMulW (.str (T [32])) (.int (maxI (t00.length : Nat) [((t10.length : Nat) : Int), ((t20.length : Nat) : Int)] - (t00.length : Nat))) h = .ok (.str (Txt.mul (T [32]) (maxI (t00.length : Nat) [((t10.length : Nat) : Int), ((t20.length : Nat) : Int)] - (t00.length : Nat)))) h := fun h => mul_ok' w0 b00 h
  have a00 : ∀ h, kAdd (.str (Txt.mul (T [32]) (maxI (t00.length : Nat) [((t10.length : Nat) : Int), ((t20.length : Nat) : Int)] - (t00.length : Nat)))) (.str (T t00)) h = .ok (.str (Txt.rjust (T t00) (maxI (t00.length : Nat) [((t10.length : Nat) : Int), ((t20.length : Nat) : Int)]))) h := fun h => addp_ok w0 b00 h
  have m01 : ∀ h, kMulW (.str (T [32])) (.int (maxI (t01.length : Nat) [((t11.length : Nat) : Int), ((t21.length : Nat) : Int)] - (t01.length : Nat))) h = .ok (.str (Txt.mul (T [32]) (maxI (t01.length : Nat) [((t11.length : Nat) : Int), ((t21.length : Nat) : Int)] - (t01.length : Nat)))) h := fun h => mul_ok' w1 b01 h
  have a01 : ∀ h, kAdd (.str (Txt.mul (T [32]) (maxI (t01.length : Nat) [((t11.length : Nat) : Int), ((t21.length : Nat) : Int)] - (t01.length : Nat)))) (.str (T t01)) h = .ok (.str (Txt.rjust (T t01) (maxI (t01.length : Nat) [((t11.length : Nat) : Int), ((t21.length : Nat) : Int)]))) h := fun h => addp_ok w1 b01 h
  have m02 : ∀ h, kMulW (.str (T [32])) (.int (maxI (t02.length : Nat) [((t12.length : Nat) : Int), ((t22.length : Nat) : Int)] - (t02.length : Nat))) h = .ok (.str (Txt.mul (T [32]) (maxI (t02.length : Nat) [((t12.length : Nat) : Int), ((t22.length : Nat) : Int)] - (t02.length : Nat)))) h := fun h => mul_ok' w2 b02 h
  have a02 : ∀ h, kAdd (.str (Txt.mul (T [32]) (maxI (t02.length : Nat) [((t12.length : Nat) : Int), ((t22.length : Nat) : Int)] - (t02.length : Nat)))) (.str (T t02)) h = .ok (.str (Txt.rjust (T t02) (maxI (t02.length : Nat) [((t12.length : Nat) : Int), ((t22.length : Nat) : Int)]))) h := fun h => addp_ok w2 b02 h
  have m10 : ∀ h, kMulW (.str (T [32])) (.int (maxI (t00.length : Nat) [((t10.length : Nat) : Int), ((t20.length : Nat) : Int)] - (t10.length : Nat))) h = .ok (.str (Txt.mul (T [32]) (maxI (t00.length : Nat) [((t10.length : Nat) : Int), ((t20.length : Nat) : Int)] - (t10.length : Nat)))) h := fun h => mul_ok' w0 b10 h
  have a10 : ∀ h, kAdd (.str (Txt.mul (T [32]) (maxI (t00.length : Nat) [((t10.length : Nat) : Int), ((t20.length : Nat) : Int)] - (t10.length : Nat)))) (.str (T t10)) h = .ok (.str (Txt.rjust (T t10) (maxI (t00.length : Nat) [((t10.length : Nat) : Int), ((t20.length : Nat) : Int)]))) h := fun h => addp_ok w0 b10 h
  have m11 : ∀ h, kMulW (.str (T [32])) (.int (maxI (t01.length : Nat) [((t11.length : Nat) : Int), ((t21.length : Nat) : Int)] - (t11.length : Nat))) h = .ok (.str (Txt.mul (T [32]) (maxI (t01.length : Nat) [((t11.length : Nat) : Int), ((t21.length : Nat) : Int)] - (t11.length : Nat)))) h := fun h => mul_ok' w1 b11 h
  have a11 : ∀ h, kAdd (.str (Txt.mul (T [32]) (maxI (t01.length : Nat) [((t11.length : Nat) : Int), ((t21.length : Nat) : Int)] - (t11.length : Nat)))) (.str (T t11)) h = .ok (.str (Txt.rjust (T t11) (maxI (t01.length : Nat) [((t11.length : Nat) : Int), ((t21.length : Nat) : Int)]))) h := fun h => addp_ok w1 b11 h
  have m12 : ∀ h, kMulW (.str (T [32])) (.int (maxI (t02.length : Nat) [((t12.length : Nat) : Int), ((t22.length : Nat) : Int)] - (t12.length : Nat))) h = .ok (.str (Txt.mul (T [32]) (maxI (t02.length : Nat) [((t12.length : Nat) : Int), ((t22.length : Nat) : Int)] - (t12.length : Nat)))) h := fun h => mul_ok' w2 b12 h
  have a12 : ∀ h, kAdd (.str (Txt.mul (T [32]) (maxI (t02.length : Nat) [((t12.length : Nat) : Int), ((t22.length : Nat) : Int)] - (t12.length : Nat)))) (.str (T t12)) h = .ok (.str (Txt.rjust (T t12) (maxI (t02.length : Nat) [((t12.length : Nat) : Int), ((t22.length : Nat) : Int)]))) h := fun h => addp_ok w2 b12 h
  have m20 : ∀ h, kMulW (.str (T [32])) (.int (maxI (t00.length : Nat) [((t10.length : Nat) : Int), ((t20.length : Nat) : Int)] - (t20.length : Nat))) h = .ok (.str (Txt.mul (T [32]) (maxI (t00.length : Nat) [((t10.length : Nat) : Int), ((t20.length : Nat) : Int)] - (t20.length : Nat)))) h := fun h => mul_ok' w0 b20 h
  have a20 : ∀ h, kAdd (.str (Txt.mul (T [32]) (maxI (t00.length : Nat) [((t10.length : Nat) : Int), ((t20.length : Nat) : Int)] - (t20.length : Nat)))) (.str (T t20)) h = .ok (.str (Txt.rjust (T t20) (maxI (t00.length : Nat) [((t10.length : Nat) : Int), ((t20.length : Nat) : Int)]))) h := fun h => addp_ok w0 b20 h
  have m21 : ∀ h, kMulW (.str (T [32])) (.int (maxI (t01.length : Nat) [((t11.length : Nat) : Int), ((t21.length : Nat) : Int)] - (t21.length : Nat))) h = .ok (.str (Txt.mul (T [32]) (maxI (t01.length : Nat) [((t11.length : Nat) : Int), ((t21.length : Nat) : Int)] - (t21.length : Nat)))) h := fun h => mul_ok' w1 b21 h
  have a21 : ∀ h, kAdd (.str (Txt.mul (T [32]) (maxI (t01.length : Nat) [((t11.length : Nat) : Int), ((t21.length : Nat) : Int)] - (t21.length : Nat)))) (.str (T t21)) h = .ok (.str (Txt.rjust (T t21) (maxI (t01.length : Nat) [((t11.length : Nat) : Int), ((t21.length : Nat) : Int)]))) h := fun h => addp_ok w1 b21 h
  have m22 : ∀ h, kMulW (.str (T [32])) (.int (maxI (t02.length : Nat) [((t12.length : Nat) : Int), ((t22.length : Nat) : Int)] - (t22.length : Nat))) h = .ok (.str (Txt.mul (T [32]) (maxI (t02.length : Nat) [((t12.length : Nat) : Int), ((t22.length : Nat) : Int)] - (t22.length : Nat)))) h := fun h => mul_ok' w2 b22 h
  have a22 : ∀ h, kAdd (.str (Txt.mul (T [32]) (maxI (t02.length : Nat) [((t12.length : Nat) : Int), ((t22.length : Nat) : Int)] - (t22.length : Nat)))) (.str (T t22)) h = .ok (.str (Txt.rjust (T t22) (maxI (t02.length : Nat) [((t12.length : Nat) : Int), ((t22.length : Nat) : Int)]))) h := fun h => addp_ok w2 b22 h
  have r1 : rgOk 0 3 = true := by decide +kernel
  have r2 : rgU 0 3 = [.int 0, .int 1, .int 2] := rfl
  have q1 : Nat.blt 3 16777216 = true := rfl
  have u0 : szOk 0 = true := by decide
  have u1 : szOk 1 = true := by decide
  have u2 : szOk 2 = true := by decide
  have u3 : szOk 3 = true := by decide
  simp [F__law_lines, runG, B__law_lines, startU, gSeq, gSet, gRet, gEx, gFor, forL, eF, eT, eLst, eLc, lcS, lcL, dynL, lcD_100000, lcD_99999, lcD_99998, lcD_99997, forD_100000, forD_99999, forD_99998, forD_99997, bYes, wipeU, aName, aLst, aCons, aNil, eSeq, eCons, eNil, eC, eVar, eCallG, eMt, kAppend, Fn.e1, Fn.e2, pureU, ir1, eCall, kMax, lstU, toInts, kLen, T_len, kIx, seqU, atU, kI0, eJoin, kJoin_ref, t_space, Rs.bind, Rs.then, fin, frz, mapO, r1, r2, q1, u0, u1, u2, u3, s00, z00, m00, a00, s01, z01, m01, a01, s02, z02, m02, a02, s10, z10, m10, a10, s11, z11, m11, a11, s12, z12, m12, a12, s20, z20, m20, a20, s21, z21, m21, a21, s22, z22, m22, a22, j0, j1, j2]
end K83
namespace K83
open PySem Fn L2 PySem.NumText
/-! ### the script's numbers -/
def big (v : Int) : Prop := 0 ≤ v ∧ Nat.log2 v.natAbs ≤ 1048700
theorem fmod_lt (v : Int) (n : Nat) (h : 0 < n) : ∃ m : Nat, v.fmod (n : Int) = (m : Int) ∧ m < n := by
  rw [Int.fmod_eq_emod_of_nonneg _ (by omega)]
  have h1 := Int.emod_nonneg v (show (n : Int) ≠ 0 by omega)
  have h2 := Int.emod_lt_of_pos v (show (0 : Int) < n by omega)
  exact ⟨(v % (n : Int)).toNat, by omega, by omega⟩
theorem kAdd_int (i j : Int) (h : List UO) : kAdd (.int i) (.int j) h = .ok (.int (i + j)) h := rfl
theorem log_le {a b : Nat} (h : a ≤ b) : Nat.log2 a ≤ Nat.log2 b := by
  by_cases h0 : a = 0
  · rw [h0]; exact Nat.le_trans (by decide) (Nat.zero_le _)
  · rw [Nat.le_log2 (by omega)]
    exact Nat.le_trans (Nat.log2_self_le h0) h
theorem cell_ok (ns : List Int) (hb : ∀ z ∈ ns, Nat.log2 z.natAbs ≤ 1048576) (hn : ns.length ≤ 63) (k : Nat) (hk : k ≤ 1000) : ∃ v : Int, F__law_cell [.scr ns, .int k] = .ok (.int v) ∧ Nat.log2 v.natAbs ≤ 1048576 := by
  have ln : kLen [.scr ns] [] = .ok (.int (ns.length : Nat)) [] := by
    show Rs.ok (U.int ((ns.map U.int).length : Nat)) [] = _
    rw [List.length_map]
  by_cases h : k < ns.length
  · refine ⟨ns[k], ?_, hb _ (List.getElem_mem h)⟩
    have ix : kIx (.scr ns) (.int k) [] = .ok (.int ns[k]) [] := by
      show (match (ns.map U.int)[k]? with | some u => Rs.ok u [] | none => .no) = _
      rw [List.getElem?_map, List.getElem?_eq_getElem h]
      rfl
    simp [F__law_cell, runG, B__law_cell, startU, gSeq, gIf, bE, Fn.e2, eVar, eCall, eCons, eNil, ln, kLt, kIB, h, gRet, ix, fin, frz, Rs.bind, Rs.then]
  · have c : cMulW 17 (k : Int) = true := c_mul (j := 5) (k := 10) (by show (17 : Int).natAbs < 2 ^ 5; decide) (by show (k : Int).natAbs < 2 ^ 10; omega) (by omega)
    have c2 : cMulW 3 ((ns.length : Nat) : Int) = true := c_mul (j := 5) (k := 10) (by show (3 : Int).natAbs < 2 ^ 5; decide) (by show ((ns.length : Nat) : Int).natAbs < 2 ^ 10; omega) (by omega)
    refine ⟨17 * (k : Int) + 3 * ((ns.length : Nat) : Int) + 1, ?_, ?_⟩
    · simp [F__law_cell, runG, B__law_cell, startU, gSeq, gIf, bE, Fn.e2, eVar, eC, eCall, eCons, eNil, ln, kLt, kIB, h, gNx, gRet, kMulW, c, c2, kAdd_int, fin, frz, Rs.bind, Rs.then]
    · have : (17 * (k : Int) + 3 * ((ns.length : Nat) : Int) + 1).natAbs ≤ 2 ^ 20 := by
        have : (2 : Nat) ^ 20 = 1048576 := by decide +kernel
        omega
      exact Nat.le_trans (log_le this) (by decide +kernel)
theorem num_big (ns : List Int) (k : Nat) (v x : Int) (e : F__law_cell [.scr ns, .int k] = .ok (.int v)) (ha : (if v < 0 then -v else v) = x) (p1 : cPow 10 18 = true) (p2 : (10 : Int) ^ (18 : Int).toNat = 1000000000000000000) (h : ¬ x < 1000000000000000000) : F__law_number [.scr ns, .int k] = .ok (.int x) := by
  have h' : decide (x < 1000000000000000000) = false := decide_eq_false h
  simp only [F__law_number, runG, B__law_number, startU, gSeq, gSet, gIf, bE, Fn.e2, eVar, eC, eCall, eCallG, eCons, eNil, Rs.bind, Rs.then, List.map, List.getElem?_cons_zero, List.getElem?_cons_succ, List.length]
  simp [pureU, e, kAbs, ha, kI, p1, p2, kLt, kIB, h', gNx, gRet, eVar, fin, frz, Rs.then]
theorem num_small (ns : List Int) (k : Nat) (v x y m : Int) (e : F__law_cell [.scr ns, .int k] = .ok (.int v)) (ha : (if v < 0 then -v else v) = x) (p1 : cPow 10 18 = true) (p2 : (10 : Int) ^ (18 : Int).toNat = 1000000000000000000) (h : x < 1000000000000000000)
    (m1 : cMulW (x + 5) (x + 48271) = true) (m2 : cMulW 69621 (k : Int) = true) (hy : (x + 5) * (x + 48271) + 69621 * (k : Int) = y) (g1 : cMod y 65537 = true) (f1 : y.fmod 65537 = m) (m3 : cMulW y (m + 11) = true) (d7 : cDivA y 7 = true) : F__law_number [.scr ns, .int k] = .ok (.int (y * (m + 11) + y.fdiv 7)) := by
  have h' : decide (x < 1000000000000000000) = true := decide_eq_true h
  simp only [F__law_number, runG, B__law_number, startU, gSeq, gSet, gIf, bE, Fn.e2, eVar, eC, eCall, eCallG, eCons, eNil, Rs.bind, Rs.then, List.map, List.getElem?_cons_zero, List.getElem?_cons_succ, List.length]
  simp [pureU, e, kAbs, ha, kI, p1, p2, kLt, kIB, h', kMulW, m1, m2, kAdd_int, hy, kInt, g1, f1, m3, d7, gNx, gRet, eVar, eC, eCall, eCons, eNil, Fn.e2, gSet, gSeq, fin, frz, Rs.bind, Rs.then]
theorem number_ok (ns : List Int) (hb : ∀ z ∈ ns, Nat.log2 z.natAbs ≤ 1048576) (hn : ns.length ≤ 63) (k : Nat) (hk : k ≤ 1000) : ∃ v : Int, F__law_number [.scr ns, .int k] = .ok (.int v) ∧ big v := by
  obtain ⟨v, e, hv⟩ := cell_ok ns hb hn k hk
  have ha : (if v < 0 then -v else v) = ((v.natAbs : Nat) : Int) := by split <;> omega
  have p1 : cPow 10 18 = true := by decide +kernel
  have p2 : (10 : Int) ^ (18 : Int).toNat = 1000000000000000000 := by decide +kernel
  have d7 : ∀ x, cDivA x 7 = true := fun x => by
    have : cDivA 0 7 = true := by decide +kernel
    exact this
  have g1 : ∀ x, cMod x 65537 = true := fun x => rfl
  obtain ⟨x, hx⟩ : ∃ x : Int, ((v.natAbs : Nat) : Int) = x := ⟨_, rfl⟩
  by_cases h : x < 1000000000000000000
  · have x60 : bd 60 x := by
      show x.natAbs < 2 ^ 60
      have : (2 : Nat) ^ 60 = 1152921504606846976 := by decide +kernel
      omega
    have y1 : bd 61 (x + 5) := bd_add x60 (by show (5 : Int).natAbs < 2 ^ 60; omega)
    have y2 : bd 61 (x + 48271) := bd_add x60 (by show (48271 : Int).natAbs < 2 ^ 60; omega)
    have y3 : bd 122 ((x + 5) * (x + 48271)) := bd_mul y1 y2
    have k10 : bd 10 (k : Int) := by show (k : Int).natAbs < 2 ^ 10; omega
    have y4 : bd 122 (69621 * (k : Int)) := bd_mono (by decide) (bd_mul (j := 20) (by show (69621 : Int).natAbs < 2 ^ 20; omega) k10)
    have y5 : bd 123 ((x + 5) * (x + 48271) + 69621 * (k : Int)) := bd_add y3 y4
    have m1 := c_mul y1 y2 (by omega)
    have m2 : cMulW 69621 (k : Int) = true := c_mul (j := 20) (by show (69621 : Int).natAbs < 2 ^ 20; omega) k10 (by omega)
    have n0 : 0 ≤ (x + 5) * (x + 48271) + 69621 * (k : Int) := by
      have := Int.mul_nonneg (show 0 ≤ x + 5 by omega) (show 0 ≤ x + 48271 by omega)
      omega
    generalize hy : (x + 5) * (x + 48271) + 69621 * (k : Int) = y at *
    obtain ⟨m, f1, hm⟩ := fmod_lt y 65537 (by decide)
    have f1 : y.fmod 65537 = (m : Int) := f1
    have z1 : bd 20 ((m : Int) + 11) := by show ((m : Int) + 11).natAbs < 2 ^ 20; omega
    have z2 := bd_mul y5 z1
    have m3 := c_mul y5 z1 (by omega)
    have q0 : y.fdiv 7 = y / 7 := Int.fdiv_eq_ediv_of_nonneg y (by decide)
    refine ⟨y * ((m : Int) + 11) + y.fdiv 7, ?_, ?_, ?_⟩
    · exact num_small ns k v x y m e (ha.trans hx) p1 p2 h m1 m2 hy (g1 y) f1 m3 (d7 y)
    · have := Int.mul_nonneg n0 (show 0 ≤ (m : Int) + 11 by omega)
      rw [q0]
      omega
    · have z3 : bd 143 (y.fdiv 7) := by
        refine bd_mono (j := 123) (by decide) ?_
        rw [q0]
        have h8 : (y / 7).natAbs ≤ y.natAbs := by clear y5 y3 y4 z1 z2 y1 y2 x60; omega
        exact Nat.lt_of_le_of_lt h8 y5
      have := bd_log (bd_add z2 z3)
      omega
  · refine ⟨x, ?_, by omega, by rw [← hx, Int.natAbs_natCast]; omega⟩
    exact num_big ns k v x e (ha.trans hx) p1 p2 h
end K83
namespace K83
open PySem Fn L2 PySem.NumText
/-! ### a fraction -/
structure Fr (u : U) : Prop where
  ex : ∃ n d : Int, u = .fl [.int n, .int d] ∧ 0 < d ∧ bd 220 n ∧ bd 220 d
theorem d_ok {x : Int} (j : Int) (h : cDivA 0 j = true) : cDivA x j = true := h
section
variable {v v1 v2 m7 m2 sd : Int} (a1 : v.fmod 7 = m7) (a2 : v.fdiv 7 = v1) (a3 : v1.fmod 2 = m2) (a4 : 1 - 2 * m2 = sd) (a5 : v1.fdiv 2 = v2)
  (c1 : cMod v 7 = true) (c2 : cDivA v 7 = true) (c3 : cMod v1 2 = true) (c4 : cMulW 2 m2 = true) (c5 : cDivA v1 2 = true)
include a1 a2 a3 a4 a5 c1 c2 c3 c4 c5
theorem fr0 {m : Int} (h : m7 = 0) (e : v2.fmod 9 = m) (c : cMod v2 9 = true) : F__law_fraction [.int v] = .ok (.fl [.int 0, .int (1 + m)]) := by
  subst h
  have z : szOk 2 = true := by decide
  simp [F__law_fraction, runG, B__law_fraction, startU, gSeq, gSet, gIf, bE, Fn.e2, eVar, eC, eCall, eCons, eNil, kInt, kI, kI0, kMulW, kAdd_int, kEq, eqD_int, c1, c2, c3, c4, c5, a1, a2, a3, a4, a5, e, c, eF, eLst, z, gRet, gNx, fin, frz, mapO, Rs.bind, Rs.then]
theorem fr1 {m : Int} (h : m7 = 1) (e : v2.fmod 23 = m) (c : cMod v2 23 = true) : F__law_fraction [.int v] = .ok (.fl [.int (m - 11), .int 1]) := by
  subst h
  have z : szOk 2 = true := by decide
  simp [F__law_fraction, runG, B__law_fraction, startU, gSeq, gSet, gIf, bE, Fn.e2, eVar, eC, eCall, eCons, eNil, kInt, kI, kI0, kMulW, kAdd_int, kEq, eqD_int, c1, c2, c3, c4, c5, a1, a2, a3, a4, a5, e, c, eF, eLst, z, gRet, gNx, fin, frz, mapO, Rs.bind, Rs.then]
theorem fr2 {m k k2 : Int} (h : m7 = 2) (e : v2.fmod 120 = m) (c : cMod v2 120 = true) (q : cMulW sd m = true) (q2 : cDivA v2 120 = true) (q3 : v2.fdiv 120 = k) (q4 : cMod k 12 = true) (q5 : k.fmod 12 = k2) : F__law_fraction [.int v] = .ok (.fl [.int (sd * m), .int (1 + k2)]) := by
  subst h
  have z : szOk 2 = true := by decide
  simp [F__law_fraction, runG, B__law_fraction, startU, gSeq, gSet, gIf, bE, Fn.e2, eVar, eC, eCall, eCons, eNil, kInt, kI, kI0, kMulW, kAdd_int, kEq, eqD_int, c1, c2, c3, c4, c5, a1, a2, a3, a4, a5, e, c, q, q2, q3, q4, q5, eF, eLst, z, gRet, gNx, fin, frz, mapO, Rs.bind, Rs.then]
theorem fr3 {m k k2 : Int} (h : m7 = 3) (e : v2.fmod 2000003 = m) (c : cMod v2 2000003 = true) (q : cMulW sd m = true) (q2 : cDivA v2 2000003 = true) (q3 : v2.fdiv 2000003 = k) (q4 : cMod k 997 = true) (q5 : k.fmod 997 = k2) : F__law_fraction [.int v] = .ok (.fl [.int (sd * m), .int (1 + k2)]) := by
  subst h
  have z : szOk 2 = true := by decide
  simp [F__law_fraction, runG, B__law_fraction, startU, gSeq, gSet, gIf, bE, Fn.e2, eVar, eC, eCall, eCons, eNil, kInt, kI, kI0, kMulW, kAdd_int, kEq, eqD_int, c1, c2, c3, c4, c5, a1, a2, a3, a4, a5, e, c, q, q2, q3, q4, q5, eF, eLst, z, gRet, gNx, fin, frz, mapO, Rs.bind, Rs.then]
variable {w y : Int} (p1 : cPow 10 40 = true) (p3 : cPow 10 59 = true) (u1 : cMulW (v2 + 3) 10000000000000000000000000000000000000007 = true) (u2 : cMulW v2 v2 = true) (u3 : (v2 + 3) * 10000000000000000000000000000000000000007 + v2 * v2 = y) (u4 : cMod y 100000000000000000000000000000000000000000000000000000000000 = true) (u5 : y.fmod 100000000000000000000000000000000000000000000000000000000000 = w)
include p1 p3 u1 u2 u3 u4 u5
theorem fr4 (h : m7 = 4) (q : cMulW sd w = true) : F__law_fraction [.int v] = .ok (.fl [.int (sd * w), .int 1]) := by
  subst h
  have z : szOk 2 = true := by decide
  simp [F__law_fraction, runG, B__law_fraction, startU, gSeq, gSet, gIf, bE, Fn.e2, eVar, eC, eCall, eCons, eNil, kInt, kI, kI0, kMulW, kAdd_int, kEq, eqD_int, c1, c2, c3, c4, c5, a1, a2, a3, a4, a5, p1, p3, u1, u2, u3, u4, u5, q, eF, eLst, z, gRet, gNx, fin, frz, mapO, Rs.bind, Rs.then]
theorem fr5 {m : Int} (h : m7 = 5) (e : v2.fmod 50 = m) (c : cMod v2 50 = true) (q : cMulW sd (1 + m) = true) : F__law_fraction [.int v] = .ok (.fl [.int (sd * (1 + m)), .int (1 + w)]) := by
  subst h
  have z : szOk 2 = true := by decide
  simp [F__law_fraction, runG, B__law_fraction, startU, gSeq, gSet, gIf, bE, Fn.e2, eVar, eC, eCall, eCons, eNil, kInt, kI, kI0, kMulW, kAdd_int, kEq, eqD_int, c1, c2, c3, c4, c5, a1, a2, a3, a4, a5, p1, p3, u1, u2, u3, u4, u5, e, c, q, eF, eLst, z, gRet, gNx, fin, frz, mapO, Rs.bind, Rs.then]
theorem fr6 {m : Int} (h : m7 = 6) (e : v2.fmod 30 = m) (c : cMod v2 30 = true) (q : cMulW sd w = true) : F__law_fraction [.int v] = .ok (.fl [.int (sd * w), .int (1 + m)]) := by
  subst h
  have z : szOk 2 = true := by decide
  simp [F__law_fraction, runG, B__law_fraction, startU, gSeq, gSet, gIf, bE, Fn.e2, eVar, eC, eCall, eCons, eNil, kInt, kI, kI0, kMulW, kAdd_int, kEq, eqD_int, c1, c2, c3, c4, c5, a1, a2, a3, a4, a5, p1, p3, u1, u2, u3, u4, u5, e, c, q, eF, eLst, z, gRet, gNx, fin, frz, mapO, Rs.bind, Rs.then]
end
theorem log_add3 (a : Nat) : Nat.log2 (a + 3) ≤ Nat.log2 a + 3 := by
  have h : a < 2 ^ (Nat.log2 a + 1) := Nat.lt_log2_self
  have h2 : a + 3 < 2 ^ (Nat.log2 a + 3) := by
    have e : 2 ^ (Nat.log2 a + 3) = 4 * 2 ^ (Nat.log2 a + 1) := by rw [Nat.pow_succ, Nat.pow_succ]; omega
    have p : 0 < 2 ^ (Nat.log2 a + 1) := Nat.two_pow_pos _
    omega
  exact Nat.le_of_lt ((Nat.log2_lt (by omega)).mpr h2)
theorem mulL {x y : Int} (h : Nat.log2 x.natAbs + Nat.log2 y.natAbs < 100000000) : cMulW x y = true := Nat.ble_eq_true_of_le h
theorem fraction_ok {v : Int} (hv : big v) : ∃ n d : Int, F__law_fraction [.int v] = .ok (.fl [.int n, .int d]) ∧ 0 < d ∧ bd 220 n ∧ bd 220 d := by
  obtain ⟨v0, vl⟩ := hv
  obtain ⟨m7, a1, h7⟩ := fmod_lt v 7 (by decide)
  have a1 : v.fmod 7 = (m7 : Int) := a1
  obtain ⟨v1, a2⟩ : ∃ v1, v.fdiv 7 = v1 := ⟨_, rfl⟩
  have e1 : v1 = v / 7 := by rw [← a2]; exact Int.fdiv_eq_ediv_of_nonneg v (by decide)
  obtain ⟨m2, a3, h2⟩ := fmod_lt v1 2 (by decide)
  have a3 : v1.fmod 2 = (m2 : Int) := a3
  obtain ⟨v2, a5⟩ : ∃ v2, v1.fdiv 2 = v2 := ⟨_, rfl⟩
  have e2 : v2 = v1 / 2 := by rw [← a5]; exact Int.fdiv_eq_ediv_of_nonneg v1 (by decide)
  have v20 : 0 ≤ v2 ∧ v2 ≤ v := by omega
  have l2 : Nat.log2 v2.natAbs ≤ 1048700 := Nat.le_trans (log_le (by omega)) vl
  obtain ⟨sd, a4⟩ : ∃ sd, 1 - 2 * (m2 : Int) = sd := ⟨_, rfl⟩
  have sdb : bd 2 sd := by show sd.natAbs < 2 ^ 2; omega
  have c2 : ∀ x, cDivA x 7 = true := fun x => d_ok _ (by decide +kernel)
  have c4 : cMulW 2 (m2 : Int) = true := c_mul (j := 2) (k := 2) (by show (2 : Int).natAbs < 2 ^ 2; omega) (by show (m2 : Int).natAbs < 2 ^ 2; omega) (by omega)
  have c5 : ∀ x, cDivA x 2 = true := fun x => d_ok _ (by decide +kernel)
  have small : ∀ m : Nat, m < 3000000 → bd 25 (m : Int) := fun m h => by
    show (m : Int).natAbs < 2 ^ 25
    have : (2 : Nat) ^ 25 = 33554432 := by decide +kernel
    omega
  have sm : ∀ m : Nat, m < 3000000 → cMulW sd (m : Int) = true ∧ bd 220 (sd * (m : Int)) := fun m h => ⟨c_mul sdb (small m h) (by omega), bd_mono (by omega) (bd_mul sdb (small m h))⟩
  have one : ∀ m : Nat, m < 3000000 → 0 < 1 + (m : Int) ∧ bd 220 (1 + (m : Int)) := fun m h => ⟨by omega, bd_mono (j := 26) (by omega) (bd_add (by show (1 : Int).natAbs < 2 ^ 25; omega) (small m h))⟩
  have b1 : bd 220 (1 : Int) := bd_mono (j := 25) (by omega) (by show (1 : Int).natAbs < 2 ^ 25; omega)
  have cases7 : m7 = 0 ∨ m7 = 1 ∨ m7 = 2 ∨ m7 = 3 ∨ m7 = 4 ∨ m7 = 5 ∨ m7 = 6 := by omega
  rcases cases7 with h | h | h | h | h
  · obtain ⟨m, e, hm⟩ := fmod_lt v2 9 (by decide)
    exact ⟨_, _, fr0 a1 a2 a3 a4 a5 rfl (c2 _) rfl c4 (c5 _) (by omega) e rfl, (one m (by omega)).1, bd_mono (j := 1) (by omega) (by show (0 : Int).natAbs < 2 ^ 1; omega), (one m (by omega)).2⟩
  · obtain ⟨m, e, hm⟩ := fmod_lt v2 23 (by decide)
    exact ⟨_, _, fr1 a1 a2 a3 a4 a5 rfl (c2 _) rfl c4 (c5 _) (by omega) e rfl, by omega, bd_mono (j := 10) (by omega) (by show ((m : Int) - 11).natAbs < 2 ^ 10; omega), b1⟩
  · obtain ⟨m, e, hm⟩ := fmod_lt v2 120 (by decide)
    obtain ⟨k, q3⟩ : ∃ k, v2.fdiv 120 = k := ⟨_, rfl⟩
    obtain ⟨k2, q5, hk⟩ := fmod_lt k 12 (by decide)
    exact ⟨_, _, fr2 a1 a2 a3 a4 a5 rfl (c2 _) rfl c4 (c5 _) (by omega) e rfl (sm m (by omega)).1 (d_ok _ (by decide +kernel)) q3 rfl q5, (one k2 (by omega)).1, (sm m (by omega)).2, (one k2 (by omega)).2⟩
  · obtain ⟨m, e, hm⟩ := fmod_lt v2 2000003 (by decide)
    obtain ⟨k, q3⟩ : ∃ k, v2.fdiv 2000003 = k := ⟨_, rfl⟩
    obtain ⟨k2, q5, hk⟩ := fmod_lt k 997 (by decide)
    exact ⟨_, _, fr3 a1 a2 a3 a4 a5 rfl (c2 _) rfl c4 (c5 _) (by omega) e rfl (sm m (by omega)).1 (d_ok _ (by decide +kernel)) q3 rfl q5, (one k2 (by omega)).1, (sm m (by omega)).2, (one k2 (by omega)).2⟩
  · have p1 : cPow 10 40 = true := by decide +kernel
    have p3 : cPow 10 59 = true := by decide +kernel
    have lT : Nat.log2 (10000000000000000000000000000000000000007 : Int).natAbs ≤ 200 := by decide +kernel
    have u1 : cMulW (v2 + 3) 10000000000000000000000000000000000000007 = true := mulL (by
      have := log_add3 v2.natAbs
      have e : (v2 + 3).natAbs = v2.natAbs + 3 := by omega
      rw [e]; omega)
    have u2 : cMulW v2 v2 = true := mulL (by omega)
    obtain ⟨y, u3⟩ : ∃ y, (v2 + 3) * 10000000000000000000000000000000000000007 + v2 * v2 = y := ⟨_, rfl⟩
    obtain ⟨w, u5, hw⟩ := fmod_lt y 100000000000000000000000000000000000000000000000000000000000 (by decide +kernel)
    have w197 : bd 197 (w : Int) := by
      show (w : Int).natAbs < 2 ^ 197
      have : (100000000000000000000000000000000000000000000000000000000000 : Nat) < 2 ^ 197 := by decide +kernel
      rw [Int.natAbs_natCast]
      exact Nat.lt_trans hw this
    have sw := c_mul sdb w197 (by omega)
    have sb : bd 220 (sd * (w : Int)) := bd_mono (by omega) (bd_mul sdb w197)
    have u4 : cMod y 100000000000000000000000000000000000000000000000000000000000 = true := (show cMod 0 100000000000000000000000000000000000000000000000000000000000 = true by decide +kernel)
    rcases h with h | h | h
    · exact ⟨_, _, fr4 a1 a2 a3 a4 a5 rfl (c2 _) rfl c4 (c5 _) p1 p3 u1 u2 u3 u4 u5 (by omega) sw, by omega, sb, b1⟩
    · obtain ⟨m, e, hm⟩ := fmod_lt v2 50 (by decide)
      have m1 : bd 26 (1 + (m : Int)) := bd_add (by show (1 : Int).natAbs < 2 ^ 25; omega) (small m (by omega))
      exact ⟨_, _, fr5 a1 a2 a3 a4 a5 rfl (c2 _) rfl c4 (c5 _) p1 p3 u1 u2 u3 u4 u5 (by omega) e rfl (c_mul sdb m1 (by omega)), by omega, bd_mono (by omega) (bd_mul sdb m1), bd_mono (by omega) (bd_add (bd_mono (j := 25) (by omega) (show bd 25 (1 : Int) from by show (1 : Int).natAbs < 2 ^ 25; omega)) w197)⟩
    · obtain ⟨m, e, hm⟩ := fmod_lt v2 30 (by decide)
      exact ⟨_, _, fr6 a1 a2 a3 a4 a5 rfl (c2 _) rfl c4 (c5 _) p1 p3 u1 u2 u3 u4 u5 (by omega) e rfl sw, (one m (by omega)).1, sb, (one m (by omega)).2⟩
end K83
namespace K83
open PySem Fn L2 PySem.NumText
/-! ### tables -/
abbrev En := Int × Int
def ok (p : En) : Prop := 0 < p.2 ∧ bd 220 p.1 ∧ bd 220 p.2
def pU (p : En) : U := .fl [.int p.1, .int p.2]
/-- one row's loop -/
theorem lcRow {tg : Tgt} {elt : Ev} {us : Lo} {h : List UO} : ∀ (xs : List U) (ys : List U), xs.length = ys.length → (∀ (i : Nat) (x y : U), xs[i]? = some x → ys[i]? = some y → ∃ us1, tg x us = some us1 ∧ elt us1 h = .ok y h) → lcL tg bYes elt us xs h = .ok ys h
  | [], [], _, _ => rfl
  | [], _ :: _, hl, _ => by simp at hl
  | _ :: _, [], hl, _ => by simp at hl
  | x :: xs, y :: ys, hl, e => by
    obtain ⟨us1, e1, e2⟩ := e 0 x y rfl rfl
    have ih := lcRow xs ys (by simpa using hl) fun i a b h1 h2 => e (i + 1) a b (by simpa using h1) (by simpa using h2)
    simp [lcL, e1, bYes, e2, ih]
/-- one row of a table -/
def rowBody (size at_ : Int) : Ev := (eCallG 1 F__law_fraction (eCons (eCallG 2 F__law_number (eCons (eVar 0) (eCons (e2 kAdd (e2 kAdd (eVar 1) (e2 kMulW (eVar 2) (eVar 4))) (eVar 5)) eNil))) eNil))
/-- the cell at place k -/
theorem place_ok (ns : List Int) (hb : ∀ z ∈ ns, Nat.log2 z.natAbs ≤ 1048576) (hn : ns.length ≤ 63) (k : Nat) (hk : k ≤ 1000) : ∃ p : En, ok p ∧ ∃ v : Int, F__law_number [.scr ns, .int k] = .ok (.int v) ∧ F__law_fraction [.int v] = .ok (pU p) := by
  obtain ⟨v, e, hv⟩ := number_ok ns hb hn k hk
  obtain ⟨n, d, e2, h0, h1, h2⟩ := fraction_ok hv
  exact ⟨(n, d), ⟨h0, h1, h2⟩, v, e, e2⟩
theorem table1 (ns : List Int) (hb : ∀ z ∈ ns, Nat.log2 z.natAbs ≤ 1048576) (hn : ns.length ≤ 63) (k : Nat) (hk : k ≤ 500) : ∃ p00 : En, ok p00 ∧ F__law_table [.scr ns, .int k, .int 1] = .ok (.fl [.fl [pU p00]]) := by
  obtain ⟨p00, o00, v00, e00, f00⟩ := place_ok ns hb hn k (by omega)
  refine ⟨p00, o00, ?_⟩
  have r1 : rgOk 0 1 = true := by decide +kernel
  have r2 : rgU 0 1 = [.int 0] := rfl
  have c0 : cMulW 1 0 = true := by decide +kernel
  have z0 : szOk 0 = true := by decide
  have z1 : szOk 1 = true := by decide
  have q1 : Nat.blt 1 16777216 = true := rfl
  unfold pU at *
  simp [F__law_table, runG, B__law_table, startU, gSeq, gSet, gEx, gFor, forL, ir1, r1, r2, eT, eF, eLst, eLc, lcS, lcL, bYes, wipeU, aName, eMt, kAppend, lstU, eCons, eNil, eVar, Fn.e2, kMulW, c0, kAdd_int, eCallG, pureU, e00, f00, z0, z1, q1, gRet, fin, frz, mapO, Rs.bind, Rs.then]
theorem table2 (ns : List Int) (hb : ∀ z ∈ ns, Nat.log2 z.natAbs ≤ 1048576) (hn : ns.length ≤ 63) (k : Nat) (hk : k ≤ 500) : ∃ p00 p01 p10 p11 : En, ok p00 ∧ ok p01 ∧ ok p10 ∧ ok p11 ∧ F__law_table [.scr ns, .int k, .int 2] = .ok (.fl [.fl [pU p00, pU p01], .fl [pU p10, pU p11]]) := by
  obtain ⟨p00, o00, v00, e00, f00⟩ := place_ok ns hb hn (k + 0) (by omega)
  have e00 : F__law_number [.scr ns, .int ((k : Int))] = .ok (.int v00) := by
    have q : ((k + 0 : Nat) : Int) = (k : Int) := by omega
    rw [← q]; exact e00
  obtain ⟨p01, o01, v01, e01, f01⟩ := place_ok ns hb hn (k + 1) (by omega)
  have e01 : F__law_number [.scr ns, .int ((k : Int) + 1)] = .ok (.int v01) := by
    have q : ((k + 1 : Nat) : Int) = (k : Int) + 1 := by omega
    rw [← q]; exact e01
  obtain ⟨p10, o10, v10, e10, f10⟩ := place_ok ns hb hn (k + 2) (by omega)
  have e10 : F__law_number [.scr ns, .int ((k : Int) + 2)] = .ok (.int v10) := by
    have q : ((k + 2 : Nat) : Int) = (k : Int) + 2 := by omega
    rw [← q]; exact e10
  obtain ⟨p11, o11, v11, e11, f11⟩ := place_ok ns hb hn (k + 3) (by omega)
  have e11 : F__law_number [.scr ns, .int ((k : Int) + 3)] = .ok (.int v11) := by
    have q : ((k + 3 : Nat) : Int) = (k : Int) + 3 := by omega
    rw [← q]; exact e11
  have g11 : F__law_number [.scr ns, .int ((k : Int) + 2 + 1)] = .ok (.int v11) := by
    have q : (k : Int) + 2 + 1 = (k : Int) + 3 := by omega
    rw [q]; exact e11
  refine ⟨p00, p01, p10, p11, o00, o01, o10, o11, ?_⟩
  have r1 : rgOk 0 2 = true := by decide +kernel
  have r2 : rgU 0 2 = [.int 0, .int 1] := rfl
  have c0 : cMulW 2 0 = true := by decide +kernel
  have c1 : cMulW 2 1 = true := by decide +kernel
  have z0 : szOk 0 = true := by decide
  have z1 : szOk 1 = true := by decide
  have z2 : szOk 2 = true := by decide
  have z3 : szOk 3 = true := by decide
  have q1 : Nat.blt 2 16777216 = true := rfl
  unfold pU at *
  simp [F__law_table, runG, B__law_table, startU, gSeq, gSet, gEx, gFor, forL, ir1, r1, r2, eT, eF, eLst, eLc, lcS, lcL, bYes, wipeU, aName, eMt, kAppend, lstU, eCons, eNil, eVar, Fn.e2, kMulW, c0, c1, kAdd_int, eCallG, pureU, e00, f00, e01, f01, e10, f10, e11, f11, g11, z0, z1, z2, z3, q1, gRet, fin, frz, mapO, Rs.bind, Rs.then]
theorem table3 (ns : List Int) (hb : ∀ z ∈ ns, Nat.log2 z.natAbs ≤ 1048576) (hn : ns.length ≤ 63) (k : Nat) (hk : k ≤ 500) : ∃ p00 p01 p02 p10 p11 p12 p20 p21 p22 : En, ok p00 ∧ ok p01 ∧ ok p02 ∧ ok p10 ∧ ok p11 ∧ ok p12 ∧ ok p20 ∧ ok p21 ∧ ok p22 ∧ F__law_table [.scr ns, .int k, .int 3] = .ok (.fl [.fl [pU p00, pU p01, pU p02], .fl [pU p10, pU p11, pU p12], .fl [pU p20, pU p21, pU p22]]) := by
  obtain ⟨p00, o00, v00, e00, f00⟩ := place_ok ns hb hn (k + 0) (by omega)
  have e00 : F__law_number [.scr ns, .int ((k : Int))] = .ok (.int v00) := by
    have q : ((k + 0 : Nat) : Int) = (k : Int) := by omega
    rw [← q]; exact e00
  obtain ⟨p01, o01, v01, e01, f01⟩ := place_ok ns hb hn (k + 1) (by omega)
  have e01 : F__law_number [.scr ns, .int ((k : Int) + 1)] = .ok (.int v01) := by
    have q : ((k + 1 : Nat) : Int) = (k : Int) + 1 := by omega
    rw [← q]; exact e01
  obtain ⟨p02, o02, v02, e02, f02⟩ := place_ok ns hb hn (k + 2) (by omega)
  have e02 : F__law_number [.scr ns, .int ((k : Int) + 2)] = .ok (.int v02) := by
    have q : ((k + 2 : Nat) : Int) = (k : Int) + 2 := by omega
    rw [← q]; exact e02
  obtain ⟨p10, o10, v10, e10, f10⟩ := place_ok ns hb hn (k + 3) (by omega)
  have e10 : F__law_number [.scr ns, .int ((k : Int) + 3)] = .ok (.int v10) := by
    have q : ((k + 3 : Nat) : Int) = (k : Int) + 3 := by omega
    rw [← q]; exact e10
  obtain ⟨p11, o11, v11, e11, f11⟩ := place_ok ns hb hn (k + 4) (by omega)
  have e11 : F__law_number [.scr ns, .int ((k : Int) + 4)] = .ok (.int v11) := by
    have q : ((k + 4 : Nat) : Int) = (k : Int) + 4 := by omega
    rw [← q]; exact e11
  have g11 : F__law_number [.scr ns, .int ((k : Int) + 3 + 1)] = .ok (.int v11) := by
    have q : (k : Int) + 3 + 1 = (k : Int) + 4 := by omega
    rw [q]; exact e11
  obtain ⟨p12, o12, v12, e12, f12⟩ := place_ok ns hb hn (k + 5) (by omega)
  have e12 : F__law_number [.scr ns, .int ((k : Int) + 5)] = .ok (.int v12) := by
    have q : ((k + 5 : Nat) : Int) = (k : Int) + 5 := by omega
    rw [← q]; exact e12
  have g12 : F__law_number [.scr ns, .int ((k : Int) + 3 + 2)] = .ok (.int v12) := by
    have q : (k : Int) + 3 + 2 = (k : Int) + 5 := by omega
    rw [q]; exact e12
  obtain ⟨p20, o20, v20, e20, f20⟩ := place_ok ns hb hn (k + 6) (by omega)
  have e20 : F__law_number [.scr ns, .int ((k : Int) + 6)] = .ok (.int v20) := by
    have q : ((k + 6 : Nat) : Int) = (k : Int) + 6 := by omega
    rw [← q]; exact e20
  obtain ⟨p21, o21, v21, e21, f21⟩ := place_ok ns hb hn (k + 7) (by omega)
  have e21 : F__law_number [.scr ns, .int ((k : Int) + 7)] = .ok (.int v21) := by
    have q : ((k + 7 : Nat) : Int) = (k : Int) + 7 := by omega
    rw [← q]; exact e21
  have g21 : F__law_number [.scr ns, .int ((k : Int) + 6 + 1)] = .ok (.int v21) := by
    have q : (k : Int) + 6 + 1 = (k : Int) + 7 := by omega
    rw [q]; exact e21
  obtain ⟨p22, o22, v22, e22, f22⟩ := place_ok ns hb hn (k + 8) (by omega)
  have e22 : F__law_number [.scr ns, .int ((k : Int) + 8)] = .ok (.int v22) := by
    have q : ((k + 8 : Nat) : Int) = (k : Int) + 8 := by omega
    rw [← q]; exact e22
  have g22 : F__law_number [.scr ns, .int ((k : Int) + 6 + 2)] = .ok (.int v22) := by
    have q : (k : Int) + 6 + 2 = (k : Int) + 8 := by omega
    rw [q]; exact e22
  refine ⟨p00, p01, p02, p10, p11, p12, p20, p21, p22, o00, o01, o02, o10, o11, o12, o20, o21, o22, ?_⟩
  have r1 : rgOk 0 3 = true := by decide +kernel
  have r2 : rgU 0 3 = [.int 0, .int 1, .int 2] := rfl
  have c0 : cMulW 3 0 = true := by decide +kernel
  have c1 : cMulW 3 1 = true := by decide +kernel
  have c2 : cMulW 3 2 = true := by decide +kernel
  have z0 : szOk 0 = true := by decide
  have z1 : szOk 1 = true := by decide
  have z2 : szOk 2 = true := by decide
  have z3 : szOk 3 = true := by decide
  have q1 : Nat.blt 3 16777216 = true := rfl
  unfold pU at *
  simp [F__law_table, runG, B__law_table, startU, gSeq, gSet, gEx, gFor, forL, ir1, r1, r2, eT, eF, eLst, eLc, lcS, lcL, bYes, wipeU, aName, eMt, kAppend, lstU, eCons, eNil, eVar, Fn.e2, kMulW, c0, c1, c2, kAdd_int, eCallG, pureU, e00, f00, e01, f01, e02, f02, e10, f10, e11, f11, e12, f12, e20, f20, e21, f21, e22, f22, g11, g12, g21, g22, z0, z1, z2, z3, q1, gRet, fin, frz, mapO, Rs.bind, Rs.then]
end K83
namespace K83
open PySem Fn L2 PySem.NumText
/-! ### the matrix of a table -/
def rU (p : En) : U := .ob 4 [.int (lo p.1 p.2).1, .int (lo p.1 p.2).2]
def item (wh : Bool) (p : En) : U := match wh && (p.2 == 1) with | true => .int p.1 | false => rU p
def bodyI : Sv := (gIf (bAnd (bTru (eVar 1)) (bE (e2 kEq (eVar 6) (eC (.int 1))))) (gEx (eMt kAppend (eVar 4) (eCons (eVar 5) eNil))) (gEx (eMt kAppend (eVar 4) (eCons (eMake 4 3 2 F_Ratio_init (eCons (eVar 5) (eCons (eVar 6) eNil))) eNil))))
theorem stepI (wh : Bool) (p : En) (hp : ok p) (s0 s2 s3 : Option U) (q : Nat) (acc : List U) (h : List UO) (hq : h[q]? = some (.lst acc)) (ha : acc.length ≤ 100) :
    bodyI [s0, some (.bl wh), s2, s3, some (.ref q), some (.int p.1), some (.int p.2)] h = .nx [s0, some (.bl wh), s2, s3, some (.ref q), some (.int p.1), some (.int p.2)] (h.set q (.lst (acc ++ [item wh p]))) := by
  have z : szOk (acc.length + 1) = true := szOk_of (by omega)
  obtain ⟨p0, p1, p2⟩ := hp
  have i := init_ok p.1 p.2 (by omega) p2 (by omega)
  cases wh with
  | false => simp [bodyI, gIf, bAnd, bTru, truU, gEx, eMt, kAppend, lstU, eCons, eNil, eVar, eMake, pureU, i, mkU, frz, mapO, hq, z, item, rU, Rs.bind, Rs.then]
  | true =>
    cases h1 : (p.2 == 1) with
    | true => simp [bodyI, gIf, bAnd, bTru, truU, bE, Fn.e2, eC, kEq, eqD_int, h1, gEx, eMt, kAppend, lstU, eCons, eNil, eVar, hq, z, item, Rs.bind, Rs.then]
    | false => simp [bodyI, gIf, bAnd, bTru, truU, bE, Fn.e2, eC, kEq, eqD_int, h1, gEx, eMt, kAppend, lstU, eCons, eNil, eVar, eMake, pureU, i, mkU, frz, mapO, hq, z, item, rU, Rs.bind, Rs.then]
theorem set_set {h : List UO} {q : Nat} {a b : UO} : (h.set q a).set q b = h.set q b := List.set_set ..
def lastN : List En → Option U → Option U | [], s => s | p :: r, _ => lastN r (some (.int p.1))
def lastD : List En → Option U → Option U | [], s => s | p :: r, _ => lastD r (some (.int p.2))
theorem fillRow (wh : Bool) (s0 s2 s3 : Option U) (q : Nat) : ∀ (row : List En) (acc : List U) (h : List UO) (s5 s6 : Option U), (∀ p ∈ row, ok p) → h[q]? = some (.lst acc) → acc.length + row.length ≤ 100 →
    forL (aLst (aCons (aName 5) (aCons (aName 6) aNil))) bodyI (row.map pU) [s0, some (.bl wh), s2, s3, some (.ref q), s5, s6] h = .nx [s0, some (.bl wh), s2, s3, some (.ref q), lastN row s5, lastD row s6] (h.set q (.lst (acc ++ row.map (item wh))))
  | [], acc, h, s5, s6, _, hq, _ => by
    have e : h.set q (.lst acc) = h := by
      obtain ⟨hl, e⟩ := List.getElem?_eq_some_iff.mp hq
      rw [← e]; exact List.set_getElem_self hl
    simp [forL, lastN, lastD, e]
  | p :: r, acc, h, s5, s6, hr, hq, hl => by
    have st := stepI wh p (hr p List.mem_cons_self) s0 s2 s3 q acc h hq (by rw [List.length_cons] at hl; omega)
    have hlt : q < h.length := (List.getElem?_eq_some_iff.mp hq).1
    have ih := fillRow wh s0 s2 s3 q r (acc ++ [item wh p]) (h.set q (.lst (acc ++ [item wh p]))) (some (.int p.1)) (some (.int p.2)) (fun x hx => hr x (List.mem_cons_of_mem _ hx)) (List.getElem?_set_self hlt) (by rw [List.length_append, List.length_singleton]; rw [List.length_cons] at hl; omega)
    have tg : aLst (aCons (aName 5) (aCons (aName 6) aNil)) (pU p) [s0, some (.bl wh), s2, s3, some (.ref q), s5, s6] = some [s0, some (.bl wh), s2, s3, some (.ref q), some (.int p.1), some (.int p.2)] := rfl
    rw [List.map_cons]
    show (match aLst (aCons (aName 5) (aCons (aName 6) aNil)) (pU p) [s0, some (.bl wh), s2, s3, some (.ref q), s5, s6] with | none => Rt.no | some us1 => match bodyI us1 h with | .nx us2 h2 => forL (aLst (aCons (aName 5) (aCons (aName 6) aNil))) bodyI (r.map pU) us2 h2 | .ct us2 h2 => forL (aLst (aCons (aName 5) (aCons (aName 6) aNil))) bodyI (r.map pU) us2 h2 | .bk us2 h2 => .nx us2 h2 | q => q) = _
    rw [tg]
    dsimp only
    rw [st]
    dsimp only
    rw [ih, set_set, List.append_assoc]
    rfl
end K83
namespace K83
open PySem Fn L2 PySem.NumText
def eltM : Ev := (eIf (bE (e1 (kIsiX .int oks) (eVar 4))) (eMake 4 3 2 F_Ratio_init (eDfl [.int 1] (eCons (eVar 4) eNil))) (eVar 4))
theorem stepM (wh : Bool) (p : En) (hp : ok p) (s0 s1 s2 s3 : Option U) (h : List UO) : eltM [s0, s1, s2, s3, some (item wh p)] h = .ok (rU p) h := by
  obtain ⟨p0, p1, p2⟩ := hp
  have i1 : isiI .int = true := by decide
  have ok4 : oks 4 = true := rfl
  unfold item
  cases hc : (wh && (p.2 == 1)) with
  | true =>
    have e : p.2 = 1 := by
      rw [Bool.and_eq_true, beq_iff_eq] at hc
      exact hc.2
    have i := init_ok p.1 1 (by decide) (k := 2) (by show (1 : Int).natAbs < 2 ^ 2; omega) (by omega)
    simp [eltM, eIf, bE, Fn.e1, eVar, kIsiX, kIsi, i1, eMake, eDfl, eCons, eNil, pureU, i, mkU, frz, mapO, rU, e, Rs.bind]
  | false => simp [eltM, eIf, bE, Fn.e1, eVar, kIsiX, ok4, rU, Rs.bind]
theorem lcItems (wh : Bool) (row : List En) (hr : ∀ p ∈ row, ok p) (s0 s1 s2 s3 : Option U) (h : List UO) : lcL (aName 4) bYes eltM [s0, s1, s2, s3, none] (row.map (item wh)) h = .ok (row.map rU) h := by
  refine lcRow _ _ (by simp) fun i x y h1 h2 => ?_
  rw [List.getElem?_map] at h1 h2
  cases q : row[i]? with
  | none => rw [q] at h1; cases h1
  | some p =>
    rw [q] at h1 h2
    cases h1
    cases h2
    exact ⟨_, rfl, stepM wh p (hr p (List.mem_of_getElem? q)) s0 s1 s2 s3 h⟩
end K83
namespace K83
open PySem Fn L2 PySem.NumText
theorem all_pure (k : Nat) (row : List En) : (row.map rU).all (plainB (k + 2)) = true := by
  rw [List.all_map, List.all_eq_true]
  intro p _
  rfl
theorem frz_rows (k : Nat) (h : List UO) : ∀ row : List En, mapO (frz (k + 2) h) (row.map rU) = some (row.map rU)
  | [] => rfl
  | p :: r => by
    have e : frz (k + 2) h (rU p) = some (rU p) := rfl
    rw [List.map_cons]
    simp only [mapO, e, frz_rows k h r]
theorem frz_items (k : Nat) (h : List UO) (wh : Bool) : ∀ row : List En, mapO (frz (k + 2) h) (row.map (item wh)) = some (row.map (item wh))
  | [] => rfl
  | p :: r => by
    have e : frz (k + 2) h (item wh p) = some (item wh p) := by
      unfold item
      split <;> rfl
    rw [List.map_cons]
    simp only [mapO, e, frz_items k h wh r]
end K83
namespace K83
open PySem Fn L2 PySem.NumText
theorem mi1 (wh : Bool) (r0 : List En) (o0 : ∀ p ∈ r0, ok p) (h0 : r0.length = 1) : ∃ t, F_Matrix_init [.ref 0, .fl [.fl (r0.map (item wh))]] [.ins 5 []] = .ok .non (.ins 5 [.int 1, .tup [.tup (r0.map rU)]] :: t) := by
  have cs : F_check_size [.int 1] = .ok .non := rfl
  have l0 := fun s0 s1 s2 s3 h => lcItems wh r0 o0 s0 s1 s2 s3 h
  unfold eltM at l0
  have z0 : szOk 0 = true := by decide
  have z1 : szOk 1 = true := by decide
  have q1 : Nat.blt 1 16777216 = true := rfl
  refine ⟨[.lst [.tup (r0.map rU)]], ?_⟩
  simp [F_Matrix_init, runH, B_Matrix_init, startU, gSeq, gSet, gEx, gIf, gFor, forL, bE, Fn.e2, kNe, kEq, eqD_int, eCall, eCallG, kLen, seqU, lstU, eCons, eNil, eVar, pureU, cs, eT, eF, eLst, eSeq, eLc, lcS, l0, wipeU, aName, eMt, kAppend, kTupC, h0, z0, z1, q1, gFld, kPutF, gNx, finH, Rs.bind, Rs.then]
theorem mi2 (wh : Bool) (r0 r1 : List En) (o0 : ∀ p ∈ r0, ok p) (h0 : r0.length = 2) (o1 : ∀ p ∈ r1, ok p) (h1 : r1.length = 2) : ∃ t, F_Matrix_init [.ref 0, .fl [.fl (r0.map (item wh)), .fl (r1.map (item wh))]] [.ins 5 []] = .ok .non (.ins 5 [.int 2, .tup [.tup (r0.map rU), .tup (r1.map rU)]] :: t) := by
  have cs : F_check_size [.int 2] = .ok .non := rfl
  have l0 := fun s0 s1 s2 s3 h => lcItems wh r0 o0 s0 s1 s2 s3 h
  have l1 := fun s0 s1 s2 s3 h => lcItems wh r1 o1 s0 s1 s2 s3 h
  unfold eltM at l0 l1
  have z0 : szOk 0 = true := by decide
  have z1 : szOk 1 = true := by decide
  have z2 : szOk 2 = true := by decide
  have q1 : Nat.blt 2 16777216 = true := rfl
  refine ⟨[.lst [.tup (r0.map rU), .tup (r1.map rU)]], ?_⟩
  simp [F_Matrix_init, runH, B_Matrix_init, startU, gSeq, gSet, gEx, gIf, gFor, forL, bE, Fn.e2, kNe, kEq, eqD_int, eCall, eCallG, kLen, seqU, lstU, eCons, eNil, eVar, pureU, cs, eT, eF, eLst, eSeq, eLc, lcS, l0, l1, wipeU, aName, eMt, kAppend, kTupC, h0, h1, z0, z1, z2, q1, gFld, kPutF, gNx, finH, Rs.bind, Rs.then]
theorem mi3 (wh : Bool) (r0 r1 r2 : List En) (o0 : ∀ p ∈ r0, ok p) (h0 : r0.length = 3) (o1 : ∀ p ∈ r1, ok p) (h1 : r1.length = 3) (o2 : ∀ p ∈ r2, ok p) (h2 : r2.length = 3) : ∃ t, F_Matrix_init [.ref 0, .fl [.fl (r0.map (item wh)), .fl (r1.map (item wh)), .fl (r2.map (item wh))]] [.ins 5 []] = .ok .non (.ins 5 [.int 3, .tup [.tup (r0.map rU), .tup (r1.map rU), .tup (r2.map rU)]] :: t) := by
  have cs : F_check_size [.int 3] = .ok .non := rfl
  have l0 := fun s0 s1 s2 s3 h => lcItems wh r0 o0 s0 s1 s2 s3 h
  have l1 := fun s0 s1 s2 s3 h => lcItems wh r1 o1 s0 s1 s2 s3 h
  have l2 := fun s0 s1 s2 s3 h => lcItems wh r2 o2 s0 s1 s2 s3 h
  unfold eltM at l0 l1 l2
  have z0 : szOk 0 = true := by decide
  have z1 : szOk 1 = true := by decide
  have z2 : szOk 2 = true := by decide
  have z3 : szOk 3 = true := by decide
  have q1 : Nat.blt 3 16777216 = true := rfl
  refine ⟨[.lst [.tup (r0.map rU), .tup (r1.map rU), .tup (r2.map rU)]], ?_⟩
  simp [F_Matrix_init, runH, B_Matrix_init, startU, gSeq, gSet, gEx, gIf, gFor, forL, bE, Fn.e2, kNe, kEq, eqD_int, eCall, eCallG, kLen, seqU, lstU, eCons, eNil, eVar, pureU, cs, eT, eF, eLst, eSeq, eLc, lcS, l0, l1, l2, wipeU, aName, eMt, kAppend, kTupC, h0, h1, h2, z0, z1, z2, z3, q1, gFld, kPutF, gNx, finH, Rs.bind, Rs.then]
end K83
namespace K83
open PySem Fn L2 PySem.NumText
def outerB : Sv := (gSeq (gSet 4 (eT (eLst eNil)))
  (gSeq (gFor (eSeq (eVar 3)) (aLst (aCons (aName 5) (aCons (aName 6) aNil))) bodyI)
  (gEx (eMt kAppend (eVar 2) (eCons (eVar 4) eNil)))))
theorem rowStep (wh : Bool) (row : List En) (hr : ∀ p ∈ row, ok p) (hl : row.length ≤ 3) (t : Option U) (acc : List U) (ha : acc.length ≤ 3) (rest : List UO) (s4 s5 s6 : Option U) :
    ∃ u5 u6, outerB [t, some (.bl wh), some (.ref 0), some (.fl (row.map pU)), s4, s5, s6] (.lst acc :: rest) = .nx [t, some (.bl wh), some (.ref 0), some (.fl (row.map pU)), some (.ref (rest.length + 1)), u5, u6] (.lst (acc ++ [.ref (rest.length + 1)]) :: (rest ++ [.lst (row.map (item wh))])) := by
  have fr := fillRow wh t (some (.ref 0)) (some (.fl (row.map pU))) (rest.length + 1) row [] (.lst acc :: (rest ++ [.lst []])) s5 s6 hr (by simp) (by simp; omega)
  refine ⟨lastN row s5, lastD row s6, ?_⟩
  have z0 : szOk 0 = true := by decide
  have za : szOk (acc.length + 1) = true := szOk_of (by omega)
  have e1 : gSet 4 (eT (eLst eNil)) [t, some (.bl wh), some (.ref 0), some (.fl (row.map pU)), s4, s5, s6] (.lst acc :: rest) = .nx [t, some (.bl wh), some (.ref 0), some (.fl (row.map pU)), some (.ref (rest.length + 1)), s5, s6] (.lst acc :: (rest ++ [.lst []])) := by
    simp [gSet, eT, eLst, eNil, z0, Rs.bind, Rs.then]
  have e2 : gFor (eSeq (eVar 3)) (aLst (aCons (aName 5) (aCons (aName 6) aNil))) bodyI [t, some (.bl wh), some (.ref 0), some (.fl (row.map pU)), some (.ref (rest.length + 1)), s5, s6] (.lst acc :: (rest ++ [.lst []])) = forL (aLst (aCons (aName 5) (aCons (aName 6) aNil))) bodyI (row.map pU) [t, some (.bl wh), some (.ref 0), some (.fl (row.map pU)), some (.ref (rest.length + 1)), s5, s6] (.lst acc :: (rest ++ [.lst []])) := rfl
  have e3 : (UO.lst acc :: (rest ++ [UO.lst []])).set (rest.length + 1) (.lst ([] ++ row.map (item wh))) = .lst acc :: (rest ++ [.lst (row.map (item wh))]) := by
    simp [List.set_append]
  rw [e3] at fr
  rw [← e2] at fr
  have e4 : ∀ u5 u6, gEx (eMt kAppend (eVar 2) (eCons (eVar 4) eNil)) [t, some (.bl wh), some (.ref 0), some (.fl (row.map pU)), some (.ref (rest.length + 1)), u5, u6] (.lst acc :: (rest ++ [.lst (row.map (item wh))])) = .nx [t, some (.bl wh), some (.ref 0), some (.fl (row.map pU)), some (.ref (rest.length + 1)), u5, u6] (.lst (acc ++ [.ref (rest.length + 1)]) :: (rest ++ [.lst (row.map (item wh))])) := fun u5 u6 => by
    simp [gEx, eMt, kAppend, lstU, eCons, eNil, eVar, za, Rs.bind, Rs.then]
  show (gSeq _ (gSeq _ _)) _ _ = _
  simp only [gSeq, e1, fr, e4]
end K83
namespace K83
open PySem Fn L2 PySem.NumText
def flR (r : List En) : U := .fl (r.map pU)
def tupR (r : List En) : U := .tup (r.map rU)
def tabU (R : List (List En)) : U := .fl (R.map flR)
def matU (R : List (List En)) : U := .ob 5 [.int (R.length : Nat), .tup (R.map tupR)]
structure Tab (R : List (List En)) : Prop where
  n : 1 ≤ R.length ∧ R.length ≤ 3
  sq : ∀ r ∈ R, r.length = R.length
  ok : ∀ r ∈ R, ∀ p ∈ r, K83.ok p
theorem frz_tup (k : Nat) (h : List UO) : ∀ R : List (List En), mapO (frz (k + 3) h) (R.map tupR) = some (R.map tupR)
  | [] => rfl
  | r :: R => by
    have e : frz (k + 3) h (tupR r) = some (tupR r) := by
      have := frz_rows k h r
      show (match mapO (frz (k + 2) h) (r.map rU) with | some ys => some (U.tup ys) | none => none) = _
      rw [this]
      rfl
    rw [List.map_cons]
    simp only [mapO, e, frz_tup k h R]
theorem plain_tup (k : Nat) (R : List (List En)) : (R.map tupR).all (plainB (k + 3)) = true := by
  rw [List.all_map, List.all_eq_true]
  intro r _
  exact all_pure k r
theorem mk_mat {as bs : List U} {h t : List UO} {R : List (List En)} (e1 : mapO (frz 8 h) as = some bs) (hl : Nat.beq (as.length + 1) 2 = true) (e2 : F_Matrix_init (.ref 0 :: bs) [.ins 5 []] = .ok .non (.ins 5 [.int (R.length : Nat), .tup (R.map tupR)] :: t)) : kMakeR 5 2 2 F_Matrix_init as h = .ok (matU R) h := by
  have f := frz_tup 3 (.ins 5 [.int (R.length : Nat), .tup (R.map tupR)] :: t) R
  have e3 : mapO (frz 7 (.ins 5 [.int (R.length : Nat), .tup (R.map tupR)] :: t)) [.int (R.length : Nat), .tup (R.map tupR)] = some [.int (R.length : Nat), .tup (R.map tupR)] := by
    have q : frz 7 (.ins 5 [.int (R.length : Nat), .tup (R.map tupR)] :: t) (.tup (R.map tupR)) = some (.tup (R.map tupR)) := by
      show (match mapO (frz 6 _) (R.map tupR) with | some ys => some (U.tup ys) | none => none) = _
      rw [f]
    have q2 : ∀ i : Int, frz 7 (.ins 5 [.int (R.length : Nat), .tup (R.map tupR)] :: t) (.int i) = some (.int i) := fun _ => rfl
    simp only [mapO, q, q2]
  have e4 : mkU 5 2 (.ins 5 [.int (R.length : Nat), .tup (R.map tupR)] :: t) = some (matU R) := by
    unfold mkU
    rw [List.getElem?_cons_zero]
    dsimp only
    have : (Nat.beq 5 5 && Nat.beq ([.int (R.length : Nat), .tup (R.map tupR)] : List U).length 2) = true := rfl
    rw [this]
    dsimp only
    rw [e3]
    rfl
  have e5 : plainB 10 (matU R) = true := by
    have q : plainB 9 (.tup (R.map tupR)) = true := plain_tup 5 R
    show List.all [.int (R.length : Nat), .tup (R.map tupR)] (plainB 9) = true
    rw [List.all_cons, List.all_cons, q]
    rfl
  unfold kMakeR
  rw [e1]
  dsimp only
  rw [hl]
  dsimp only
  rw [e2]
  dsimp only
  rw [e4]
  dsimp only
  rw [e5]
theorem filled1 (wh : Bool) (r0 : List En) (o0 : ∀ p ∈ r0, ok p) (h0 : r0.length = 1) : F__law_filled [tabU [r0], .bl wh] = .ok (matU [r0]) := by
  obtain ⟨t, em⟩ := mi1 wh r0 o0 h0
  obtain ⟨a0, b0, s0⟩ := rowStep wh r0 o0 (by omega) (some (tabU [r0])) [] (by decide) [] none none none
  have g0 := frz_items 4 (.lst [.ref 1] :: [.lst (r0.map (item wh))]) wh r0
  have y0 : frz 7 (.lst [.ref 1] :: [.lst (r0.map (item wh))]) (.ref 1) = some (.fl (r0.map (item wh))) := by
    show (match mapO (frz 6 (.lst [.ref 1] :: [.lst (r0.map (item wh))])) (r0.map (item wh)) with | some ys => some (U.fl ys) | none => none) = _
    rw [g0]
  have x : mapO (frz 8 (.lst [.ref 1] :: [.lst (r0.map (item wh))])) [.ref 0] = some [.fl [.fl (r0.map (item wh))]] := by
    have y : frz 8 (.lst [.ref 1] :: [.lst (r0.map (item wh))]) (.ref 0) = some (.fl [.fl (r0.map (item wh))]) := by
      show (match mapO (frz 7 (.lst [.ref 1] :: [.lst (r0.map (item wh))])) [.ref 1] with | some ys => some (U.fl ys) | none => none) = _
      simp only [mapO, y0]
    simp only [mapO, y]
  have mk := mk_mat (R := [r0]) x rfl em
  have z0 : szOk 0 = true := by decide
  have rt : gRet (eMakeR 5 2 2 F_Matrix_init (eCons (eVar 2) eNil)) [some (tabU [r0]), some (.bl wh), some (.ref 0), some (flR r0), some (.ref 1), a0, b0] (.lst [.ref 1] :: [.lst (r0.map (item wh))]) = .rt (matU [r0]) (.lst [.ref 1] :: [.lst (r0.map (item wh))]) := by
    simp [gRet, eMakeR, eCons, eNil, eVar, Rs.bind, Rs.then, mk]
  have fo : gFor (eSeq (eVar 0)) (aName 3) outerB [some (tabU [r0]), some (.bl wh), some (.ref 0), none, none, none, none] [.lst []] = .nx [some (tabU [r0]), some (.bl wh), some (.ref 0), some (flR r0), some (.ref 1), a0, b0] (.lst [.ref 1] :: [.lst (r0.map (item wh))]) := by
    show forL (aName 3) outerB [flR r0] [some (tabU [r0]), some (.bl wh), some (.ref 0), none, none, none, none] [.lst []] = _
    have t0 : aName 3 (flR r0) [some (tabU [r0]), some (.bl wh), some (.ref 0), none, none, none, none] = some [some (tabU [r0]), some (.bl wh), some (.ref 0), some (flR r0), none, none, none] := rfl
    have v0 : outerB [some (tabU [r0]), some (.bl wh), some (.ref 0), some (flR r0), none, none, none] (.lst [] :: []) = .nx [some (tabU [r0]), some (.bl wh), some (.ref 0), some (flR r0), some (.ref 1), a0, b0] (.lst [.ref 1] :: [.lst (r0.map (item wh))]) := s0
    simp only [forL, t0, v0]
  have f1 : gSet 2 (eT (eLst eNil)) [some (tabU [r0]), some (.bl wh), none, none, none, none, none] [] = .nx [some (tabU [r0]), some (.bl wh), some (.ref 0), none, none, none, none] [.lst []] := by
    simp [gSet, eT, eLst, eNil, z0, Rs.bind, Rs.then]
  show fin (gSeq (gSet 2 (eT (eLst eNil))) (gSeq (gFor (eSeq (eVar 0)) (aName 3) outerB) (gRet (eMakeR 5 2 2 F_Matrix_init (eCons (eVar 2) eNil)))) [some (tabU [r0]), some (.bl wh), none, none, none, none, none] []) = _
  simp only [gSeq, f1, fo, rt, fin]
  have fz := frz_tup 3 (.lst [.ref 1] :: [.lst (r0.map (item wh))]) [r0]
  have q : ∀ k : Int, frz 7 (.lst [.ref 1] :: [.lst (r0.map (item wh))]) (.int k) = some (.int k) := fun _ => rfl
  have q2 : frz 7 (.lst [.ref 1] :: [.lst (r0.map (item wh))]) (.tup ([r0].map tupR)) = some (.tup ([r0].map tupR)) := by
    show (match mapO (frz 6 _) ([r0].map tupR) with | some ys => some (U.tup ys) | none => none) = _
    rw [fz]
  have q3 : frz 8 (.lst [.ref 1] :: [.lst (r0.map (item wh))]) (matU [r0]) = some (matU [r0]) := by
    unfold matU
    show (match mapO (frz 7 (.lst [.ref 1] :: [.lst (r0.map (item wh))])) [.int _, .tup ([r0].map tupR)] with | some ys => some (U.ob 5 ys) | none => none) = _
    simp only [mapO, q, q2]
  rw [q3]
theorem filled2 (wh : Bool) (r0 r1 : List En) (o0 : ∀ p ∈ r0, ok p) (h0 : r0.length = 2) (o1 : ∀ p ∈ r1, ok p) (h1 : r1.length = 2) : F__law_filled [tabU [r0, r1], .bl wh] = .ok (matU [r0, r1]) := by
  obtain ⟨t, em⟩ := mi2 wh r0 r1 o0 h0 o1 h1
  obtain ⟨a0, b0, s0⟩ := rowStep wh r0 o0 (by omega) (some (tabU [r0, r1])) [] (by decide) [] none none none
  obtain ⟨a1, b1, s1⟩ := rowStep wh r1 o1 (by omega) (some (tabU [r0, r1])) [.ref 1] (by decide) [.lst (r0.map (item wh))] (some (.ref 1)) a0 b0
  have g0 := frz_items 4 (.lst [.ref 1, .ref 2] :: [.lst (r0.map (item wh)), .lst (r1.map (item wh))]) wh r0
  have g1 := frz_items 4 (.lst [.ref 1, .ref 2] :: [.lst (r0.map (item wh)), .lst (r1.map (item wh))]) wh r1
  have y0 : frz 7 (.lst [.ref 1, .ref 2] :: [.lst (r0.map (item wh)), .lst (r1.map (item wh))]) (.ref 1) = some (.fl (r0.map (item wh))) := by
    show (match mapO (frz 6 (.lst [.ref 1, .ref 2] :: [.lst (r0.map (item wh)), .lst (r1.map (item wh))])) (r0.map (item wh)) with | some ys => some (U.fl ys) | none => none) = _
    rw [g0]
  have y1 : frz 7 (.lst [.ref 1, .ref 2] :: [.lst (r0.map (item wh)), .lst (r1.map (item wh))]) (.ref 2) = some (.fl (r1.map (item wh))) := by
    show (match mapO (frz 6 (.lst [.ref 1, .ref 2] :: [.lst (r0.map (item wh)), .lst (r1.map (item wh))])) (r1.map (item wh)) with | some ys => some (U.fl ys) | none => none) = _
    rw [g1]
  have x : mapO (frz 8 (.lst [.ref 1, .ref 2] :: [.lst (r0.map (item wh)), .lst (r1.map (item wh))])) [.ref 0] = some [.fl [.fl (r0.map (item wh)), .fl (r1.map (item wh))]] := by
    have y : frz 8 (.lst [.ref 1, .ref 2] :: [.lst (r0.map (item wh)), .lst (r1.map (item wh))]) (.ref 0) = some (.fl [.fl (r0.map (item wh)), .fl (r1.map (item wh))]) := by
      show (match mapO (frz 7 (.lst [.ref 1, .ref 2] :: [.lst (r0.map (item wh)), .lst (r1.map (item wh))])) [.ref 1, .ref 2] with | some ys => some (U.fl ys) | none => none) = _
      simp only [mapO, y0, y1]
    simp only [mapO, y]
  have mk := mk_mat (R := [r0, r1]) x rfl em
  have z0 : szOk 0 = true := by decide
  have rt : gRet (eMakeR 5 2 2 F_Matrix_init (eCons (eVar 2) eNil)) [some (tabU [r0, r1]), some (.bl wh), some (.ref 0), some (flR r1), some (.ref 2), a1, b1] (.lst [.ref 1, .ref 2] :: [.lst (r0.map (item wh)), .lst (r1.map (item wh))]) = .rt (matU [r0, r1]) (.lst [.ref 1, .ref 2] :: [.lst (r0.map (item wh)), .lst (r1.map (item wh))]) := by
    simp [gRet, eMakeR, eCons, eNil, eVar, Rs.bind, Rs.then, mk]
  have fo : gFor (eSeq (eVar 0)) (aName 3) outerB [some (tabU [r0, r1]), some (.bl wh), some (.ref 0), none, none, none, none] [.lst []] = .nx [some (tabU [r0, r1]), some (.bl wh), some (.ref 0), some (flR r1), some (.ref 2), a1, b1] (.lst [.ref 1, .ref 2] :: [.lst (r0.map (item wh)), .lst (r1.map (item wh))]) := by
    show forL (aName 3) outerB [flR r0, flR r1] [some (tabU [r0, r1]), some (.bl wh), some (.ref 0), none, none, none, none] [.lst []] = _
    have t0 : aName 3 (flR r0) [some (tabU [r0, r1]), some (.bl wh), some (.ref 0), none, none, none, none] = some [some (tabU [r0, r1]), some (.bl wh), some (.ref 0), some (flR r0), none, none, none] := rfl
    have v0 : outerB [some (tabU [r0, r1]), some (.bl wh), some (.ref 0), some (flR r0), none, none, none] (.lst [] :: []) = .nx [some (tabU [r0, r1]), some (.bl wh), some (.ref 0), some (flR r0), some (.ref 1), a0, b0] (.lst [.ref 1] :: [.lst (r0.map (item wh))]) := s0
    have t1 : aName 3 (flR r1) [some (tabU [r0, r1]), some (.bl wh), some (.ref 0), some (flR r0), some (.ref 1), a0, b0] = some [some (tabU [r0, r1]), some (.bl wh), some (.ref 0), some (flR r1), some (.ref 1), a0, b0] := rfl
    have v1 : outerB [some (tabU [r0, r1]), some (.bl wh), some (.ref 0), some (flR r1), some (.ref 1), a0, b0] (.lst [.ref 1] :: [.lst (r0.map (item wh))]) = .nx [some (tabU [r0, r1]), some (.bl wh), some (.ref 0), some (flR r1), some (.ref 2), a1, b1] (.lst [.ref 1, .ref 2] :: [.lst (r0.map (item wh)), .lst (r1.map (item wh))]) := s1
    simp only [forL, t0, v0, t1, v1]
  have f1 : gSet 2 (eT (eLst eNil)) [some (tabU [r0, r1]), some (.bl wh), none, none, none, none, none] [] = .nx [some (tabU [r0, r1]), some (.bl wh), some (.ref 0), none, none, none, none] [.lst []] := by
    simp [gSet, eT, eLst, eNil, z0, Rs.bind, Rs.then]
  show fin (gSeq (gSet 2 (eT (eLst eNil))) (gSeq (gFor (eSeq (eVar 0)) (aName 3) outerB) (gRet (eMakeR 5 2 2 F_Matrix_init (eCons (eVar 2) eNil)))) [some (tabU [r0, r1]), some (.bl wh), none, none, none, none, none] []) = _
  simp only [gSeq, f1, fo, rt, fin]
  have fz := frz_tup 3 (.lst [.ref 1, .ref 2] :: [.lst (r0.map (item wh)), .lst (r1.map (item wh))]) [r0, r1]
  have q : ∀ k : Int, frz 7 (.lst [.ref 1, .ref 2] :: [.lst (r0.map (item wh)), .lst (r1.map (item wh))]) (.int k) = some (.int k) := fun _ => rfl
  have q2 : frz 7 (.lst [.ref 1, .ref 2] :: [.lst (r0.map (item wh)), .lst (r1.map (item wh))]) (.tup ([r0, r1].map tupR)) = some (.tup ([r0, r1].map tupR)) := by
    show (match mapO (frz 6 _) ([r0, r1].map tupR) with | some ys => some (U.tup ys) | none => none) = _
    rw [fz]
  have q3 : frz 8 (.lst [.ref 1, .ref 2] :: [.lst (r0.map (item wh)), .lst (r1.map (item wh))]) (matU [r0, r1]) = some (matU [r0, r1]) := by
    unfold matU
    show (match mapO (frz 7 (.lst [.ref 1, .ref 2] :: [.lst (r0.map (item wh)), .lst (r1.map (item wh))])) [.int _, .tup ([r0, r1].map tupR)] with | some ys => some (U.ob 5 ys) | none => none) = _
    simp only [mapO, q, q2]
  rw [q3]
theorem filled3 (wh : Bool) (r0 r1 r2 : List En) (o0 : ∀ p ∈ r0, ok p) (h0 : r0.length = 3) (o1 : ∀ p ∈ r1, ok p) (h1 : r1.length = 3) (o2 : ∀ p ∈ r2, ok p) (h2 : r2.length = 3) : F__law_filled [tabU [r0, r1, r2], .bl wh] = .ok (matU [r0, r1, r2]) := by
  obtain ⟨t, em⟩ := mi3 wh r0 r1 r2 o0 h0 o1 h1 o2 h2
  obtain ⟨a0, b0, s0⟩ := rowStep wh r0 o0 (by omega) (some (tabU [r0, r1, r2])) [] (by decide) [] none none none
  obtain ⟨a1, b1, s1⟩ := rowStep wh r1 o1 (by omega) (some (tabU [r0, r1, r2])) [.ref 1] (by decide) [.lst (r0.map (item wh))] (some (.ref 1)) a0 b0
  obtain ⟨a2, b2, s2⟩ := rowStep wh r2 o2 (by omega) (some (tabU [r0, r1, r2])) [.ref 1, .ref 2] (by decide) [.lst (r0.map (item wh)), .lst (r1.map (item wh))] (some (.ref 2)) a1 b1
  have g0 := frz_items 4 (.lst [.ref 1, .ref 2, .ref 3] :: [.lst (r0.map (item wh)), .lst (r1.map (item wh)), .lst (r2.map (item wh))]) wh r0
  have g1 := frz_items 4 (.lst [.ref 1, .ref 2, .ref 3] :: [.lst (r0.map (item wh)), .lst (r1.map (item wh)), .lst (r2.map (item wh))]) wh r1
  have g2 := frz_items 4 (.lst [.ref 1, .ref 2, .ref 3] :: [.lst (r0.map (item wh)), .lst (r1.map (item wh)), .lst (r2.map (item wh))]) wh r2
  have y0 : frz 7 (.lst [.ref 1, .ref 2, .ref 3] :: [.lst (r0.map (item wh)), .lst (r1.map (item wh)), .lst (r2.map (item wh))]) (.ref 1) = some (.fl (r0.map (item wh))) := by
    show (match mapO (frz 6 (.lst [.ref 1, .ref 2, .ref 3] :: [.lst (r0.map (item wh)), .lst (r1.map (item wh)), .lst (r2.map (item wh))])) (r0.map (item wh)) with | some ys => some (U.fl ys) | none => none) = _
    rw [g0]
  have y1 : frz 7 (.lst [.ref 1, .ref 2, .ref 3] :: [.lst (r0.map (item wh)), .lst (r1.map (item wh)), .lst (r2.map (item wh))]) (.ref 2) = some (.fl (r1.map (item wh))) := by
    show (match mapO (frz 6 (.lst [.ref 1, .ref 2, .ref 3] :: [.lst (r0.map (item wh)), .lst (r1.map (item wh)), .lst (r2.map (item wh))])) (r1.map (item wh)) with | some ys => some (U.fl ys) | none => none) = _
    rw [g1]
  have y2 : frz 7 (.lst [.ref 1, .ref 2, .ref 3] :: [.lst (r0.map (item wh)), .lst (r1.map (item wh)), .lst (r2.map (item wh))]) (.ref 3) = some (.fl (r2.map (item wh))) := by
    show (match mapO (frz 6 (.lst [.ref 1, .ref 2, .ref 3] :: [.lst (r0.map (item wh)), .lst (r1.map (item wh)), .lst (r2.map (item wh))])) (r2.map (item wh)) with | some ys => some (U.fl ys) | none => none) = _
    rw [g2]
  have x : mapO (frz 8 (.lst [.ref 1, .ref 2, .ref 3] :: [.lst (r0.map (item wh)), .lst (r1.map (item wh)), .lst (r2.map (item wh))])) [.ref 0] = some [.fl [.fl (r0.map (item wh)), .fl (r1.map (item wh)), .fl (r2.map (item wh))]] := by
    have y : frz 8 (.lst [.ref 1, .ref 2, .ref 3] :: [.lst (r0.map (item wh)), .lst (r1.map (item wh)), .lst (r2.map (item wh))]) (.ref 0) = some (.fl [.fl (r0.map (item wh)), .fl (r1.map (item wh)), .fl (r2.map (item wh))]) := by
      show (match mapO (frz 7 (.lst [.ref 1, .ref 2, .ref 3] :: [.lst (r0.map (item wh)), .lst (r1.map (item wh)), .lst (r2.map (item wh))])) [.ref 1, .ref 2, .ref 3] with | some ys => some (U.fl ys) | none => none) = _
      simp only [mapO, y0, y1, y2]
    simp only [mapO, y]
  have mk := mk_mat (R := [r0, r1, r2]) x rfl em
  have z0 : szOk 0 = true := by decide
  have rt : gRet (eMakeR 5 2 2 F_Matrix_init (eCons (eVar 2) eNil)) [some (tabU [r0, r1, r2]), some (.bl wh), some (.ref 0), some (flR r2), some (.ref 3), a2, b2] (.lst [.ref 1, .ref 2, .ref 3] :: [.lst (r0.map (item wh)), .lst (r1.map (item wh)), .lst (r2.map (item wh))]) = .rt (matU [r0, r1, r2]) (.lst [.ref 1, .ref 2, .ref 3] :: [.lst (r0.map (item wh)), .lst (r1.map (item wh)), .lst (r2.map (item wh))]) := by
    simp [gRet, eMakeR, eCons, eNil, eVar, Rs.bind, Rs.then, mk]
  have fo : gFor (eSeq (eVar 0)) (aName 3) outerB [some (tabU [r0, r1, r2]), some (.bl wh), some (.ref 0), none, none, none, none] [.lst []] = .nx [some (tabU [r0, r1, r2]), some (.bl wh), some (.ref 0), some (flR r2), some (.ref 3), a2, b2] (.lst [.ref 1, .ref 2, .ref 3] :: [.lst (r0.map (item wh)), .lst (r1.map (item wh)), .lst (r2.map (item wh))]) := by
    show forL (aName 3) outerB [flR r0, flR r1, flR r2] [some (tabU [r0, r1, r2]), some (.bl wh), some (.ref 0), none, none, none, none] [.lst []] = _
    have t0 : aName 3 (flR r0) [some (tabU [r0, r1, r2]), some (.bl wh), some (.ref 0), none, none, none, none] = some [some (tabU [r0, r1, r2]), some (.bl wh), some (.ref 0), some (flR r0), none, none, none] := rfl
    have v0 : outerB [some (tabU [r0, r1, r2]), some (.bl wh), some (.ref 0), some (flR r0), none, none, none] (.lst [] :: []) = .nx [some (tabU [r0, r1, r2]), some (.bl wh), some (.ref 0), some (flR r0), some (.ref 1), a0, b0] (.lst [.ref 1] :: [.lst (r0.map (item wh))]) := s0
    have t1 : aName 3 (flR r1) [some (tabU [r0, r1, r2]), some (.bl wh), some (.ref 0), some (flR r0), some (.ref 1), a0, b0] = some [some (tabU [r0, r1, r2]), some (.bl wh), some (.ref 0), some (flR r1), some (.ref 1), a0, b0] := rfl
    have v1 : outerB [some (tabU [r0, r1, r2]), some (.bl wh), some (.ref 0), some (flR r1), some (.ref 1), a0, b0] (.lst [.ref 1] :: [.lst (r0.map (item wh))]) = .nx [some (tabU [r0, r1, r2]), some (.bl wh), some (.ref 0), some (flR r1), some (.ref 2), a1, b1] (.lst [.ref 1, .ref 2] :: [.lst (r0.map (item wh)), .lst (r1.map (item wh))]) := s1
    have t2 : aName 3 (flR r2) [some (tabU [r0, r1, r2]), some (.bl wh), some (.ref 0), some (flR r1), some (.ref 2), a1, b1] = some [some (tabU [r0, r1, r2]), some (.bl wh), some (.ref 0), some (flR r2), some (.ref 2), a1, b1] := rfl
    have v2 : outerB [some (tabU [r0, r1, r2]), some (.bl wh), some (.ref 0), some (flR r2), some (.ref 2), a1, b1] (.lst [.ref 1, .ref 2] :: [.lst (r0.map (item wh)), .lst (r1.map (item wh))]) = .nx [some (tabU [r0, r1, r2]), some (.bl wh), some (.ref 0), some (flR r2), some (.ref 3), a2, b2] (.lst [.ref 1, .ref 2, .ref 3] :: [.lst (r0.map (item wh)), .lst (r1.map (item wh)), .lst (r2.map (item wh))]) := s2
    simp only [forL, t0, v0, t1, v1, t2, v2]
  have f1 : gSet 2 (eT (eLst eNil)) [some (tabU [r0, r1, r2]), some (.bl wh), none, none, none, none, none] [] = .nx [some (tabU [r0, r1, r2]), some (.bl wh), some (.ref 0), none, none, none, none] [.lst []] := by
    simp [gSet, eT, eLst, eNil, z0, Rs.bind, Rs.then]
  show fin (gSeq (gSet 2 (eT (eLst eNil))) (gSeq (gFor (eSeq (eVar 0)) (aName 3) outerB) (gRet (eMakeR 5 2 2 F_Matrix_init (eCons (eVar 2) eNil)))) [some (tabU [r0, r1, r2]), some (.bl wh), none, none, none, none, none] []) = _
  simp only [gSeq, f1, fo, rt, fin]
  have fz := frz_tup 3 (.lst [.ref 1, .ref 2, .ref 3] :: [.lst (r0.map (item wh)), .lst (r1.map (item wh)), .lst (r2.map (item wh))]) [r0, r1, r2]
  have q : ∀ k : Int, frz 7 (.lst [.ref 1, .ref 2, .ref 3] :: [.lst (r0.map (item wh)), .lst (r1.map (item wh)), .lst (r2.map (item wh))]) (.int k) = some (.int k) := fun _ => rfl
  have q2 : frz 7 (.lst [.ref 1, .ref 2, .ref 3] :: [.lst (r0.map (item wh)), .lst (r1.map (item wh)), .lst (r2.map (item wh))]) (.tup ([r0, r1, r2].map tupR)) = some (.tup ([r0, r1, r2].map tupR)) := by
    show (match mapO (frz 6 _) ([r0, r1, r2].map tupR) with | some ys => some (U.tup ys) | none => none) = _
    rw [fz]
  have q3 : frz 8 (.lst [.ref 1, .ref 2, .ref 3] :: [.lst (r0.map (item wh)), .lst (r1.map (item wh)), .lst (r2.map (item wh))]) (matU [r0, r1, r2]) = some (matU [r0, r1, r2]) := by
    unfold matU
    show (match mapO (frz 7 (.lst [.ref 1, .ref 2, .ref 3] :: [.lst (r0.map (item wh)), .lst (r1.map (item wh)), .lst (r2.map (item wh))])) [.int _, .tup ([r0, r1, r2].map tupR)] with | some ys => some (U.ob 5 ys) | none => none) = _
    simp only [mapO, q, q2]
  rw [q3]
theorem filled_ok (wh : Bool) {R : List (List En)} (t : Tab R) : F__law_filled [tabU R, .bl wh] = .ok (matU R) := by
  obtain ⟨n, sq, o⟩ := t
  match R, n, sq, o with
  | [r0], _, sq, o => exact filled1 wh r0 (o _ (by simp)) (sq _ (by simp))
  | [r0, r1], _, sq, o => exact filled2 wh r0 r1 (o _ (by simp)) (sq _ (by simp)) (o _ (by simp)) (sq _ (by simp))
  | [r0, r1, r2], _, sq, o => exact filled3 wh r0 r1 r2 (o _ (by simp)) (sq _ (by simp)) (o _ (by simp)) (sq _ (by simp)) (o _ (by simp)) (sq _ (by simp))
  | _ :: _ :: _ :: _ :: _, n, _, _ => simp at n
end K83
namespace K83
open PySem Fn L2 PySem.NumText
/-! ### loops by an invariant -/
theorem forL_inv {tg : Tgt} {body : Sv} (I : Lo → List UO → Prop) : ∀ (xs : List U) (us : Lo) (h : List UO), (∀ x ∈ xs, ∀ us h, I us h → ∃ us1 us2 h2, tg x us = some us1 ∧ body us1 h = .nx us2 h2 ∧ I us2 h2) → I us h → ∃ us' h', forL tg body xs us h = .nx us' h' ∧ I us' h'
  | [], us, h, _, i => ⟨us, h, rfl, i⟩
  | x :: r, us, h, st, i => by
    obtain ⟨us1, us2, h2, e1, e2, i2⟩ := st x List.mem_cons_self us h i
    obtain ⟨us', h', e3, i3⟩ := forL_inv I r us2 h2 (fun y hy => st y (List.mem_cons_of_mem _ hy)) i2
    exact ⟨us', h', by simp only [forL, e1, e2, e3], i3⟩
theorem rg_mem {n : Nat} {x : U} (h : x ∈ rgU 0 (n : Int)) : ∃ i : Nat, i < n ∧ x = .int (i : Int) := by
  unfold rgU at h
  obtain ⟨i, hi, e⟩ := List.mem_map.mp h
  rw [List.mem_range] at hi
  refine ⟨i, by omega, ?_⟩
  rw [← e]; congr 1; omega
theorem rg_ok {n : Nat} (h : n ≤ 100000) : rgOk 0 (n : Int) = true := by
  unfold rgOk
  rw [Bool.and_eq_true, Bool.and_eq_true]
  exact ⟨⟨Nat.ble_eq_true_of_le (by omega), Nat.ble_eq_true_of_le (by omega)⟩, Nat.ble_eq_true_of_le (by omega)⟩
/-! ### the same lines -/
theorem eqS_self {x : Str} (h : PyData.strOk x = true) (hp : List UO) : eqD hp (.str x) (.str x) = some true := by
  show (match toD 20 hp (.str x), toD 20 hp (.str x) with | some d, some e => some (PyData.eqv d e) | _, _ => none) = _
  have d1 : toD 20 hp (.str x) = some (.str x) := by show (if PyData.strOk x = true then _ else _) = _; rw [if_pos h]
  rw [d1]
  show some (PyData.eqv (.str x) (.str x)) = _
  unfold PyData.eqv
  simp
theorem same_lines_ok (L : List Str) (hl : L.length ≤ 1000) (hs : ∀ x ∈ L, PyData.strOk x = true) : F__law_same_lines [.fl (L.map .str), .fl (L.map .str)] = .ok (.bl true) := by
  have i1 : isiL .lst = true := by decide
  have i2 : isiS .str = true := by decide
  have ln : kLen [.fl (L.map U.str)] [] = .ok (.int (L.length : Nat)) [] := by
    show Rs.ok (U.int ((L.map U.str).length : Nat)) [] = _
    rw [List.length_map]
  have fo := forL_inv (tg := aName 2) (body := (gIf (bOr (bNot (bE (e1 (kIsi .str) (e2 kIx (eVar 0) (eVar 2))))) (bE (e2 kNe (e2 kIx (eVar 0) (eVar 2)) (e2 kIx (eVar 1) (eVar 2))))) (gRet (eC (.bl false))) gNx)) (fun us h => (∃ a, us = [some (.fl (L.map .str)), some (.fl (L.map .str)), a]) ∧ h = []) (rgU 0 (L.length : Int)) [some (.fl (L.map .str)), some (.fl (L.map .str)), none] [] (by
    rintro x hx us h ⟨⟨a, rfl⟩, rfl⟩
    obtain ⟨i, hi, rfl⟩ := rg_mem hx
    refine ⟨_, [some (.fl (L.map .str)), some (.fl (L.map .str)), some (.int (i : Int))], [], rfl, ?_, ⟨_, rfl⟩, rfl⟩
    have ix : kIx (.fl (L.map U.str)) (.int (i : Int)) [] = .ok (.str L[i]) [] := by
      show (match (L.map U.str)[i]? with | some u => Rs.ok u [] | none => .no) = _
      rw [List.getElem?_map, List.getElem?_eq_getElem hi]
      rfl
    have e := eqS_self (hs _ (List.getElem_mem hi)) []
    simp [gIf, bOr, bNot, bE, Fn.e1, Fn.e2, eVar, ix, kIsi, i2, kNe, e, gNx, Rs.bind, Rs.then]) ⟨⟨_, rfl⟩, rfl⟩
  obtain ⟨us', h', e3, ⟨a, rfl⟩, rfl⟩ := fo
  have r := rg_ok (n := L.length) (by omega)
  simp [F__law_same_lines, runG, B__law_same_lines, startU, gSeq, gIf, bOr, bNot, bE, Fn.e1, Fn.e2, eVar, kIsi, i1, eCall, eCons, eNil, ln, kNe, eqD_int, gNx, gFor, ir1, r, e3, gRet, eC, fin, frz, Rs.bind, Rs.then]
/-! ### the same entries -/
theorem at_map {α : Type} (f : α → U) (l : List α) (i : Nat) (hi : i < l.length) : atU (l.map f) (i : Int) = some (f l[i]) := by
  show (l.map f)[i]? = _
  rw [List.getElem?_map, List.getElem?_eq_getElem hi]
  rfl
theorem kIx_fl {xs : List U} {i : Int} {u : U} (e : atU xs i = some u) {h : List UO} : kIx (.fl xs) (.int i) h = .ok u h := by
  show (match atU xs i with | some u => Rs.ok u h | none => .no) = _
  rw [e]
theorem kIx_tup {xs : List U} {i : Int} {u : U} (e : atU xs i = some u) {h : List UO} : kIx (.tup xs) (.int i) h = .ok u h := by
  show (match atU xs i with | some u => Rs.ok u h | none => .no) = _
  rw [e]
theorem pure_mat (R : List (List En)) : pureU 10 (matU R) = true := by
  have q : pureU 9 (.tup (R.map tupR)) = true := by
    show (R.map tupR).all (pureU 8) = true
    rw [List.all_map, List.all_eq_true]
    intro r _
    show (r.map rU).all (pureU 7) = true
    rw [List.all_map, List.all_eq_true]
    intro p _
    rfl
  show List.all [.int (R.length : Nat), .tup (R.map tupR)] (pureU 9) = true
  rw [List.all_cons, List.all_cons, q]
  rfl
theorem same_entries_ok {R : List (List En)} (t : Tab R) : F__law_same_entries [matU R, tabU R] = .ok (.bl true) := by
  have n3 := t.n
  have ln : kLen [tabU R] [] = .ok (.int (R.length : Nat)) [] := by
    show Rs.ok (U.int ((R.map flR).length : Nat)) [] = _
    rw [List.length_map]
  have r := rg_ok (n := R.length) (by omega)
  have inner : ∀ i : Nat, i < R.length → ∀ us h, ((∃ b c, us = [some (matU R), some (tabU R), some (.int (i : Int)), b, c]) ∧ h = []) → ∃ us' h', forL (aName 3) (gSeq (gSet 4 (eGetO 5 F_Matrix_getitem (eVar 0) (eTup (eCons (e2 kAdd (eVar 2) (eC (.int 1))) (eCons (e2 kAdd (eVar 3) (eC (.int 1))) eNil)))))
      (gIf (bE (e2 kNe (e2 kMulW (e1 (kFld 4 0) (eVar 4)) (e2 kIx (e2 kIx (e2 kIx (eVar 1) (eVar 2)) (eVar 3)) (eC (.int 1)))) (e2 kMulW (e2 kIx (e2 kIx (e2 kIx (eVar 1) (eVar 2)) (eVar 3)) (eC (.int 0))) (e1 (kFld 4 1) (eVar 4))))) (gRet (eC (.bl false))) gNx)) (rgU 0 (R.length : Int)) us h = .nx us' h' ∧ (∃ b c, us' = [some (matU R), some (tabU R), some (.int (i : Int)), b, c]) ∧ h' = [] := by
    intro i hi us h hI
    refine forL_inv (fun us h => (∃ b c, us = [some (matU R), some (tabU R), some (.int (i : Int)), b, c]) ∧ h = []) _ us h ?_ hI
    rintro x hx us h ⟨⟨b, c, rfl⟩, rfl⟩
    obtain ⟨j, hj, rfl⟩ := rg_mem hx
    have hr : R[i].length = R.length := t.sq _ (List.getElem_mem hi)
    have hj' : j < R[i].length := by omega
    obtain ⟨p0, p1, p2⟩ := t.ok _ (List.getElem_mem hi) _ (List.getElem_mem hj')
    generalize hp : R[i][j] = p at *
    refine ⟨_, [some (matU R), some (tabU R), some (.int (i : Int)), some (.int (j : Int)), some (rU p)], [], rfl, ?_, ⟨_, _, rfl⟩, rfl⟩
    have q1 : atU (R.map tupR) (i : Int) = some (tupR R[i]) := at_map tupR R i hi
    have q2 : atU (R[i].map rU) (j : Int) = some (rU p) := by rw [at_map rU _ j hj', hp]
    have q3 : atU (R.map flR) (i : Int) = some (flR R[i]) := at_map flR R i hi
    have q4 : atU (R[i].map pU) (j : Int) = some (pU p) := by rw [at_map pU _ j hj', hp]
    have g : F_Matrix_getitem [matU R, .tup [.int ((i : Int) + 1), .int ((j : Int) + 1)]] = .ok (rU p) := by
      have s1 : (i : Int) + 1 - 1 = (i : Int) := by omega
      have s2 : (j : Int) + 1 - 1 = (j : Int) := by omega
      have fz : frz 8 [] (rU p) = some (rU p) := rfl
      simp [F_Matrix_getitem, runG, B_Matrix_getitem, startU, gSeq, gAsg, aTup, aCons, aNil, aName, eVar, eC, gRet, Fn.e1, Fn.e2, kFld, insU, matU, kI0, s1, s2, kIx, seqU, q1, tupR, q2, fin, fz, Rs.bind, Rs.then]
    have b := bd_lo (n := p.1) (d := p.2) (by omega) p1 p2
    have c1 : cMulW (lo p.1 p.2).1 p.2 = true := c_mul b.1 p2 (by omega)
    have c2 : cMulW p.1 (lo p.1 p.2).2 = true := c_mul p1 b.2 (by omega)
    have l := lo_is p.1 p.2 (by omega)
    have e : (lo p.1 p.2).1 * p.2 = p.1 * (lo p.1 p.2).2 := by have := l.eq; grind
    have ho : isOb 5 (matU R) = true := rfl
    have pu := pure_mat R
    have pu2 : pureU 10 (.tup [.int ((i : Int) + 1), .int ((j : Int) + 1)]) = true := rfl
    have k5 : ∀ h, kG 2 F_Matrix_getitem [matU R, .tup [.int ((i : Int) + 1), .int ((j : Int) + 1)]] h = .ok (rU p) h := by
      intro h
      have z : ([matU R, .tup [.int ((i : Int) + 1), .int ((j : Int) + 1)]].length == 2 && [matU R, .tup [.int ((i : Int) + 1), .int ((j : Int) + 1)]].all (pureU 10)) = true := by
        rw [List.all_cons, List.all_cons, pu, pu2]; rfl
      unfold kG
      rw [z]
      dsimp only
      rw [g]
    have x1 : kIx (tabU R) (.int (i : Int)) [] = .ok (flR R[i]) [] := kIx_fl q3
    have x2 : kIx (flR R[i]) (.int (j : Int)) [] = .ok (pU p) [] := kIx_fl q4
    have x3 : kIx (pU p) (.int 1) [] = .ok (.int p.2) [] := rfl
    have x4 : kIx (pU p) (.int 0) [] = .ok (.int p.1) [] := rfl
    have f1 : kFld 4 0 (rU p) [] = .ok (.int (lo p.1 p.2).1) [] := rfl
    have f2 : kFld 4 1 (rU p) [] = .ok (.int (lo p.1 p.2).2) [] := rfl
    simp [gSeq, gSet, eGetO, eTup, szOk, eCons, eNil, eVar, eC, Fn.e1, Fn.e2, kAdd_int, ho, k5, gIf, bE, f1, f2, x1, x2, x3, x4, kMulW, c1, c2, kNe, eqD_int, e, gNx, Rs.bind, Rs.then]
  have outer := forL_inv (tg := aName 2) (body := (gFor (ir1 (eCall kLen (eCons (eVar 1) eNil))) (aName 3) (gSeq (gSet 4 (eGetO 5 F_Matrix_getitem (eVar 0) (eTup (eCons (e2 kAdd (eVar 2) (eC (.int 1))) (eCons (e2 kAdd (eVar 3) (eC (.int 1))) eNil)))))
      (gIf (bE (e2 kNe (e2 kMulW (e1 (kFld 4 0) (eVar 4)) (e2 kIx (e2 kIx (e2 kIx (eVar 1) (eVar 2)) (eVar 3)) (eC (.int 1)))) (e2 kMulW (e2 kIx (e2 kIx (e2 kIx (eVar 1) (eVar 2)) (eVar 3)) (eC (.int 0))) (e1 (kFld 4 1) (eVar 4))))) (gRet (eC (.bl false))) gNx)))) (fun us h => (∃ a b c, us = [some (matU R), some (tabU R), a, b, c]) ∧ h = []) (rgU 0 (R.length : Int)) [some (matU R), some (tabU R), none, none, none] [] (by
    rintro x hx us h ⟨⟨a, b, c, rfl⟩, rfl⟩
    obtain ⟨i, hi, rfl⟩ := rg_mem hx
    obtain ⟨us', h', e, ⟨b', c', rfl⟩, rfl⟩ := inner i hi [some (matU R), some (tabU R), some (.int (i : Int)), b, c] [] ⟨⟨_, _, rfl⟩, rfl⟩
    refine ⟨_, [some (matU R), some (tabU R), some (.int (i : Int)), b', c'], [], rfl, ?_, ⟨_, _, _, rfl⟩, rfl⟩
    simp only [List.set_cons_succ, List.set_cons_zero]
    simp only [gFor, ir1, eCall, eCons, eNil, eVar, ln, r, Rs.bind, Rs.then, List.getElem?_cons_succ, List.getElem?_cons_zero]
    exact e) ⟨⟨_, _, _, rfl⟩, rfl⟩
  obtain ⟨us', h', e, ⟨a, b, c, rfl⟩, rfl⟩ := outer
  have f : gFor (ir1 (eCall kLen (eCons (eVar 1) eNil))) (aName 2) (gFor (ir1 (eCall kLen (eCons (eVar 1) eNil))) (aName 3) (gSeq (gSet 4 (eGetO 5 F_Matrix_getitem (eVar 0) (eTup (eCons (e2 kAdd (eVar 2) (eC (.int 1))) (eCons (e2 kAdd (eVar 3) (eC (.int 1))) eNil)))))
      (gIf (bE (e2 kNe (e2 kMulW (e1 (kFld 4 0) (eVar 4)) (e2 kIx (e2 kIx (e2 kIx (eVar 1) (eVar 2)) (eVar 3)) (eC (.int 1)))) (e2 kMulW (e2 kIx (e2 kIx (e2 kIx (eVar 1) (eVar 2)) (eVar 3)) (eC (.int 0))) (e1 (kFld 4 1) (eVar 4))))) (gRet (eC (.bl false))) gNx))) [some (matU R), some (tabU R), none, none, none] [] = .nx [some (matU R), some (tabU R), a, b, c] [] := by
    rw [← e]
    simp only [gFor, ir1, eCall, eCons, eNil, eVar, ln, r, Rs.bind, Rs.then, List.getElem?_cons_succ, List.getElem?_cons_zero]
  show fin (gSeq _ (gRet (eC (.bl true))) [some (matU R), some (tabU R), none, none, none] []) = _
  simp only [gSeq, f]
  rfl
end K83
namespace K83
open PySem Fn L2 PySem.NumText
/-! ### the lines of a table -/
def JT (x : Str) : Prop := ∃ z, x = T z ∧ ∀ c ∈ z, c < 1000
theorem JT.app {x y : Str} (a : JT x) (b : JT y) : JT (x ++ y) := by
  obtain ⟨u, rfl, hu⟩ := a
  obtain ⟨v, rfl, hv⟩ := b
  refine ⟨u ++ v, T_app u v, fun c hc => ?_⟩
  rcases List.mem_append.mp hc with h | h
  · exact hu c h
  · exact hv c h
theorem JT.rj {t : List Nat} (h : ∀ c ∈ t, c < 1000) (w : Int) : JT (Txt.rjust (T t) w) := by
  refine ⟨_, pad_T t w, fun c hc => ?_⟩
  rcases List.mem_append.mp hc with q | q
  · have := (List.mem_replicate.mp q).2; omega
  · exact h c q
theorem JT.sp : JT (T [32]) := ⟨[32], rfl, by simp⟩
theorem JT.fold {P : Array Nat → Prop} (hP : ∀ a : Array Nat, P a ↔ ∀ c ∈ a.toList, c < 1000) : ∀ (l : List Str) (a : Array Nat), P a → (∀ x ∈ l, JT x) → P (l.foldl (fun acc p => acc ++ (T [32]).cps ++ p.cps) a)
  | [], _, h, _ => h
  | x :: r, a, h, hl => by
    refine JT.fold hP r _ ?_ fun z hz => hl z (List.mem_cons_of_mem _ hz)
    obtain ⟨z, rfl, hz⟩ := hl x (by simp)
    rw [hP] at h ⊢
    intro c hc
    rw [Array.toList_append, Array.toList_append] at hc
    rcases List.mem_append.mp hc with q | q
    · rcases List.mem_append.mp q with q | q
      · exact h c q
      · have : c = 32 := by simpa [T] using q
        omega
    · exact hz c (by simpa [T] using q)
theorem JT.join : ∀ {l : List Str}, (∀ x ∈ l, JT x) → JT (Txt.join (T [32]) l)
  | [], _ => ⟨[], rfl, by simp⟩
  | x :: r, h => by
    have q := JT.fold (P := fun a => ∀ c ∈ a.toList, c < 1000) (fun a => Iff.rfl) r x.cps (by
      obtain ⟨z, rfl, hz⟩ := h x (by simp)
      exact fun c hc => hz c (by simpa [T] using hc)) fun z hz => h z (List.mem_cons_of_mem _ hz)
    exact ⟨(Txt.join (T [32]) (x :: r)).cps.toList, T_of _, q⟩
theorem JT.ok {x : Str} (h : JT x) : PyData.strOk x = true := by
  obtain ⟨z, rfl, hz⟩ := h
  exact ok_T hz
theorem dg_ad (n : Nat) : AllDigits (dg n) := (dg_good n).1.ad
theorem fnil {P : Str → Prop} : ∀ x ∈ ([] : List Str), P x := fun _ h => by cases h
theorem fcons {P : Str → Prop} {a : Str} {l : List Str} (h : P a) (t : ∀ x ∈ l, P x) : ∀ x ∈ a :: l, P x := fun x hx => by
  rcases List.mem_cons.mp hx with e | e
  · rw [e]; exact h
  · exact t x e
theorem sgl_lt (i : Int) : ∀ c ∈ sgl i, c < 1000 := by
  intro c hc
  unfold sgl at hc
  split at hc
  · rcases List.mem_cons.mp hc with h | h
    · omega
    · exact ad_lt (dg_ad _) c h
  · exact ad_lt (dg_ad _) c hc
theorem fr_lt (x y : Int) : ∀ c ∈ fr x y, c < 1000 := by
  intro c hc
  unfold fr at hc
  split at hc
  · exact sgl_lt x c hc
  · rcases List.mem_append.mp hc with h | h
    · rcases List.mem_append.mp h with h | h
      · exact sgl_lt x c h
      · rw [List.mem_singleton.mp h]; omega
    · exact sgl_lt y c h
def tx (p : En) : List Nat := fr (lo p.1 p.2).1 (lo p.1 p.2).2
theorem tx_lt (p : En) : ∀ c ∈ tx p, c < 1000 := fr_lt _ _
theorem tx_ok {p : En} (h : ok p) : (tx p).length ≤ 200 ∧ F__law_written [.int p.1, .int p.2] = .ok (.str (T (tx p))) ∧ F_Ratio_str [rU p] = .ok (.str (T (tx p))) := by
  obtain ⟨h0, h1, h2⟩ := h
  have b := bd_lo (n := p.1) (d := p.2) (by omega) h1 h2
  have s1 := sgl40 b.1
  have s2 := sgl40 b.2
  refine ⟨?_, written_ok p.1 p.2 h0 h1 h2, str_ok b.1 b.2⟩
  unfold tx fr
  split
  · omega
  · simp; omega
def LinesOk (R : List (List En)) : Prop := ∃ L : List Str, 1 ≤ L.length ∧ L.length ≤ 3 ∧ (∀ x ∈ L, PyData.strOk x = true) ∧ F__law_lines [tabU R] = .ok (.fl (L.map .str)) ∧ ∀ h, F_matrix_lines [matU R] h = .ok (.ref h.length) (h ++ [.lst (L.map .str)])
theorem lines1 {p00 : En} (o00 : ok p00) : LinesOk [[p00]] := by
  obtain ⟨l00, w00, s00⟩ := tx_ok o00
  refine ⟨[Txt.join (T [32]) [Txt.rjust (T (tx p00)) (maxI ((tx p00).length : Nat) [])]], by simp, by simp, ?_, ll1 l00 w00, ml1 l00 s00⟩
  exact (fcons (JT.join (fcons (JT.rj (tx_lt _) _) fnil)).ok fnil)
theorem lines2 {p00 p01 p10 p11 : En} (o00 : ok p00) (o01 : ok p01) (o10 : ok p10) (o11 : ok p11) : LinesOk [[p00, p01], [p10, p11]] := by
  obtain ⟨l00, w00, s00⟩ := tx_ok o00
  obtain ⟨l01, w01, s01⟩ := tx_ok o01
  obtain ⟨l10, w10, s10⟩ := tx_ok o10
  obtain ⟨l11, w11, s11⟩ := tx_ok o11
  refine ⟨[Txt.join (T [32]) [Txt.rjust (T (tx p00)) (maxI ((tx p00).length : Nat) [(((tx p10).length : Nat) : Int)]), Txt.rjust (T (tx p01)) (maxI ((tx p01).length : Nat) [(((tx p11).length : Nat) : Int)])], Txt.join (T [32]) [Txt.rjust (T (tx p10)) (maxI ((tx p00).length : Nat) [(((tx p10).length : Nat) : Int)]), Txt.rjust (T (tx p11)) (maxI ((tx p01).length : Nat) [(((tx p11).length : Nat) : Int)])]], by simp, by simp, ?_, ll2 l00 l01 l10 l11 w00 w01 w10 w11, ml2 l00 l01 l10 l11 s00 s01 s10 s11⟩
  exact (fcons (JT.join (fcons (JT.rj (tx_lt _) _) (fcons (JT.rj (tx_lt _) _) fnil))).ok (fcons (JT.join (fcons (JT.rj (tx_lt _) _) (fcons (JT.rj (tx_lt _) _) fnil))).ok fnil))
theorem lines3 {p00 p01 p02 p10 p11 p12 p20 p21 p22 : En} (o00 : ok p00) (o01 : ok p01) (o02 : ok p02) (o10 : ok p10) (o11 : ok p11) (o12 : ok p12) (o20 : ok p20) (o21 : ok p21) (o22 : ok p22) : LinesOk [[p00, p01, p02], [p10, p11, p12], [p20, p21, p22]] := by
  obtain ⟨l00, w00, s00⟩ := tx_ok o00
  obtain ⟨l01, w01, s01⟩ := tx_ok o01
  obtain ⟨l02, w02, s02⟩ := tx_ok o02
  obtain ⟨l10, w10, s10⟩ := tx_ok o10
  obtain ⟨l11, w11, s11⟩ := tx_ok o11
  obtain ⟨l12, w12, s12⟩ := tx_ok o12
  obtain ⟨l20, w20, s20⟩ := tx_ok o20
  obtain ⟨l21, w21, s21⟩ := tx_ok o21
  obtain ⟨l22, w22, s22⟩ := tx_ok o22
  refine ⟨[Txt.join (T [32]) [Txt.rjust (T (tx p00)) (maxI ((tx p00).length : Nat) [(((tx p10).length : Nat) : Int), (((tx p20).length : Nat) : Int)]), Txt.rjust (T (tx p01)) (maxI ((tx p01).length : Nat) [(((tx p11).length : Nat) : Int), (((tx p21).length : Nat) : Int)]), Txt.rjust (T (tx p02)) (maxI ((tx p02).length : Nat) [(((tx p12).length : Nat) : Int), (((tx p22).length : Nat) : Int)])], Txt.join (T [32]) [Txt.rjust (T (tx p10)) (maxI ((tx p00).length : Nat) [(((tx p10).length : Nat) : Int), (((tx p20).length : Nat) : Int)]), Txt.rjust (T (tx p11)) (maxI ((tx p01).length : Nat) [(((tx p11).length : Nat) : Int), (((tx p21).length : Nat) : Int)]), Txt.rjust (T (tx p12)) (maxI ((tx p02).length : Nat) [(((tx p12).length : Nat) : Int), (((tx p22).length : Nat) : Int)])], Txt.join (T [32]) [Txt.rjust (T (tx p20)) (maxI ((tx p00).length : Nat) [(((tx p10).length : Nat) : Int), (((tx p20).length : Nat) : Int)]), Txt.rjust (T (tx p21)) (maxI ((tx p01).length : Nat) [(((tx p11).length : Nat) : Int), (((tx p21).length : Nat) : Int)]), Txt.rjust (T (tx p22)) (maxI ((tx p02).length : Nat) [(((tx p12).length : Nat) : Int), (((tx p22).length : Nat) : Int)])]], by simp, by simp, ?_, ll3 l00 l01 l02 l10 l11 l12 l20 l21 l22 w00 w01 w02 w10 w11 w12 w20 w21 w22, ml3 l00 l01 l02 l10 l11 l12 l20 l21 l22 s00 s01 s02 s10 s11 s12 s20 s21 s22⟩
  exact (fcons (JT.join (fcons (JT.rj (tx_lt _) _) (fcons (JT.rj (tx_lt _) _) (fcons (JT.rj (tx_lt _) _) fnil)))).ok (fcons (JT.join (fcons (JT.rj (tx_lt _) _) (fcons (JT.rj (tx_lt _) _) (fcons (JT.rj (tx_lt _) _) fnil)))).ok (fcons (JT.join (fcons (JT.rj (tx_lt _) _) (fcons (JT.rj (tx_lt _) _) (fcons (JT.rj (tx_lt _) _) fnil)))).ok fnil)))
theorem len_one {α : Type} {l : List α} (h : l.length = 1) : ∃ a, l = [a] := List.length_eq_one_iff.mp h
theorem len_two {α : Type} {l : List α} (h : l.length = 2) : ∃ a b, l = [a, b] := by
  match l, h with
  | [a, b], _ => exact ⟨a, b, rfl⟩
theorem len_three {α : Type} {l : List α} (h : l.length = 3) : ∃ a b c, l = [a, b, c] := by
  match l, h with
  | [a, b, c], _ => exact ⟨a, b, c, rfl⟩
theorem lines_ok {R : List (List En)} (t : Tab R) : LinesOk R := by
  obtain ⟨n, sq, o⟩ := t
  match R, n, sq, o with
  | [r0], _, sq, o =>
    obtain ⟨a, rfl⟩ := len_one (sq r0 (by simp))
    exact lines1 (o [a] (by simp) _ (by simp))
  | [r0, r1], _, sq, o =>
    obtain ⟨a, b, rfl⟩ := len_two (sq r0 (by simp))
    obtain ⟨c, d, rfl⟩ := len_two (sq r1 (by simp))
    exact lines2 (o [a, b] (by simp) _ (by simp)) (o [a, b] (by simp) _ (by simp)) (o [c, d] (by simp) _ (by simp)) (o [c, d] (by simp) _ (by simp))
  | [r0, r1, r2], _, sq, o =>
    obtain ⟨a, b, c, rfl⟩ := len_three (sq r0 (by simp))
    obtain ⟨d, e, f, rfl⟩ := len_three (sq r1 (by simp))
    obtain ⟨g, h, i, rfl⟩ := len_three (sq r2 (by simp))
    exact lines3 (o [a, b, c] (by simp) _ (by simp)) (o [a, b, c] (by simp) _ (by simp)) (o [a, b, c] (by simp) _ (by simp)) (o [d, e, f] (by simp) _ (by simp)) (o [d, e, f] (by simp) _ (by simp)) (o [d, e, f] (by simp) _ (by simp)) (o [g, h, i] (by simp) _ (by simp)) (o [g, h, i] (by simp) _ (by simp)) (o [g, h, i] (by simp) _ (by simp))
  | _ :: _ :: _ :: _ :: _, n, _, _ => simp at n
end K83
namespace K83
open PySem Fn L2 PySem.NumText
/-! ### the menu -/
theorem alpha_at (m : Nat) (hm : m < 26) (h : List UO) : kIx (.str (Str.ofString "abcdefghijklmnopqrstuvwxyz")) (.int (m : Int)) h = .ok (.str (T [97 + m])) h := by
  have q : ∀ m : Fin 26, atU (Str.ofString "abcdefghijklmnopqrstuvwxyz").cps.toList ((m.val : Nat) : Int) = some (97 + m.val) := by decide +kernel
  have z : szOk (Str.ofString "abcdefghijklmnopqrstuvwxyz").length = true := by decide +kernel
  show (if szOk (Str.ofString "abcdefghijklmnopqrstuvwxyz").length = true then (match atU (Str.ofString "abcdefghijklmnopqrstuvwxyz").cps.toList (m : Int) with | some c => Rs.ok (U.str ⟨#[c]⟩) h | none => .no) else .no) = _
  rw [if_pos z, q ⟨m, hm⟩]
  rfl
theorem steps_at (m : Nat) (hm : m < 12) : ∃ t : Nat, t ≤ 25 ∧ ([U.int 1, .int 3, .int 5, .int 7, .int 9, .int 11, .int 15, .int 17, .int 19, .int 21, .int 23, .int 25] : List U)[m]? = some (.int (t : Int)) := by
  match m, hm with
  | 0, _ => exact ⟨1, by omega, rfl⟩
  | 1, _ => exact ⟨3, by omega, rfl⟩
  | 2, _ => exact ⟨5, by omega, rfl⟩
  | 3, _ => exact ⟨7, by omega, rfl⟩
  | 4, _ => exact ⟨9, by omega, rfl⟩
  | 5, _ => exact ⟨11, by omega, rfl⟩
  | 6, _ => exact ⟨15, by omega, rfl⟩
  | 7, _ => exact ⟨17, by omega, rfl⟩
  | 8, _ => exact ⟨19, by omega, rfl⟩
  | 9, _ => exact ⟨21, by omega, rfl⟩
  | 10, _ => exact ⟨23, by omega, rfl⟩
  | 11, _ => exact ⟨25, by omega, rfl⟩
theorem menu_ok (v : Int) : ∃ l : List Nat, l.length = 6 ∧ (∀ c ∈ l, c < 1000) ∧ F__law_menu [.int v] = .ok (.str (T l)) := by
  obtain ⟨s, g1, hs⟩ := fmod_lt v 26 (by decide)
  obtain ⟨w, ew⟩ : ∃ w, v.fdiv 26 = w := ⟨_, rfl⟩
  obtain ⟨j, g2, hj⟩ := fmod_lt w 12 (by decide)
  obtain ⟨t, ht, e3⟩ := steps_at j hj
  have g1 : v.fmod 26 = (s : Int) := g1
  have g2 : w.fmod 12 = (j : Int) := g2
  have m26 : ∀ x, cMod x 26 = true := fun x => rfl
  have m12 : ∀ x, cMod x 12 = true := fun x => rfl
  have d26 : ∀ x, cDivA x 26 = true := fun x => by
    have : cDivA 0 26 = true := by decide +kernel
    exact this
  have z12 : szOk 12 = true := by decide
  have x3 : kIx (.fl [U.int 1, .int 3, .int 5, .int 7, .int 9, .int 11, .int 15, .int 17, .int 19, .int 21, .int 23, .int 25]) (.int (j : Int)) [] = .ok (.int (t : Int)) [] := kIx_fl (i := ((j : Nat) : Int)) (show atU _ ((j : Nat) : Int) = _ from e3)
  let f : Nat → Nat := fun k => 97 + (s + t * k) % 26
  have hf : ∀ k, f k < 1000 := fun k => by show 97 + (s + t * k) % 26 < 1000; omega
  have elt : ∀ (k : Nat) (us : Lo), k < 6 → us = [some (.int v), some (.str (Str.ofString "abcdefghijklmnopqrstuvwxyz")), some (.int (s : Int)), some (.int (t : Int)), some (.int (k : Int))] → (Fn.e2 kIx (eVar 1) (Fn.e2 (kI cMod Int.fmod) (eCall kInt (eCons (Fn.e2 kAdd (eVar 2) (Fn.e2 kMulW (eVar 3) (eVar 4))) eNil)) (eC (.int 26)))) us [] = .ok (.str (T [f k])) [] := by
    rintro k us hk rfl
    have c : cMulW (t : Int) (k : Int) = true := c_mul (j := 5) (k := 3) (by show (t : Int).natAbs < 2 ^ 5; omega) (by show (k : Int).natAbs < 2 ^ 3; omega) (by omega)
    have e : ((s : Int) + (t : Int) * (k : Int)).fmod 26 = (((s + t * k) % 26 : Nat) : Int) := by
      rw [Int.fmod_eq_emod_of_nonneg _ (by decide)]
      simp
    have a := alpha_at ((s + t * k) % 26) (Nat.mod_lt _ (by decide)) []
    simp only [Fn.e2, eVar, eC, eCall, eCons, eNil, List.getElem?_cons_zero, List.getElem?_cons_succ, kMulW, c, kAdd_int, kInt, kI, m26, e, Rs.bind]
    exact a
  have lc := lcRow (tg := aName 4) (elt := (Fn.e2 kIx (eVar 1) (Fn.e2 (kI cMod Int.fmod) (eCall kInt (eCons (Fn.e2 kAdd (eVar 2) (Fn.e2 kMulW (eVar 3) (eVar 4))) eNil)) (eC (.int 26))))) (us := [some (.int v), some (.str (Str.ofString "abcdefghijklmnopqrstuvwxyz")), some (.int (s : Int)), some (.int (t : Int)), none]) (h := []) [.int 0, .int 1, .int 2, .int 3, .int 4, .int 5] [.str (T [f 0]), .str (T [f 1]), .str (T [f 2]), .str (T [f 3]), .str (T [f 4]), .str (T [f 5])] rfl (by
    intro i x y h1 h2
    match i, h1, h2 with
    | 0, h1, h2 => cases h1; cases h2; exact ⟨_, rfl, elt 0 _ (by omega) rfl⟩
    | 1, h1, h2 => cases h1; cases h2; exact ⟨_, rfl, elt 1 _ (by omega) rfl⟩
    | 2, h1, h2 => cases h1; cases h2; exact ⟨_, rfl, elt 2 _ (by omega) rfl⟩
    | 3, h1, h2 => cases h1; cases h2; exact ⟨_, rfl, elt 3 _ (by omega) rfl⟩
    | 4, h1, h2 => cases h1; cases h2; exact ⟨_, rfl, elt 4 _ (by omega) rfl⟩
    | 5, h1, h2 => cases h1; cases h2; exact ⟨_, rfl, elt 5 _ (by omega) rfl⟩
    | n + 6, h1, _ => simp at h1)
  have r1 : rgOk 0 6 = true := by decide +kernel
  have r2 : rgU 0 6 = [.int 0, .int 1, .int 2, .int 3, .int 4, .int 5] := rfl
  have q6 : Nat.blt 6 16777216 = true := rfl
  have jn : kJoin (Str.ofString "") (.fl [.str (T [f 0]), .str (T [f 1]), .str (T [f 2]), .str (T [f 3]), .str (T [f 4]), .str (T [f 5])]) [] = .ok (.str (T [f 0, f 1, f 2, f 3, f 4, f 5])) [] := by
    rfl
  refine ⟨[f 0, f 1, f 2, f 3, f 4, f 5], rfl, ?_, ?_⟩
  · intro c hc
    simp only [List.mem_cons, List.not_mem_nil, or_false] at hc
    rcases hc with rfl | rfl | rfl | rfl | rfl | rfl <;> exact hf _
  · show fin (B__law_menu (startU 5 [.int v]) []) = _
    have s1 : ((eLst (eCons (eC (.int 1)) (eCons (eC (.int 3)) (eCons (eC (.int 5)) (eCons (eC (.int 7)) (eCons (eC (.int 9)) (eCons (eC (.int 11)) (eCons (eC (.int 15)) (eCons (eC (.int 17)) (eCons (eC (.int 19)) (eCons (eC (.int 21)) (eCons (eC (.int 23)) (eCons (eC (.int 25)) eNil)))))))))))))) = fun us h => .ok ([U.int 1, .int 3, .int 5, .int 7, .int 9, .int 11, .int 15, .int 17, .int 19, .int 21, .int 23, .int 25]) h := rfl
    simp [B__law_menu, startU, gSeq, gSet, s1, Fn.e2, eVar, eC, eCall, eCons, eNil, kInt, kI, m26, m12, d26, g1, ew, g2, x3, gRet, eJoin, eF, eLc, ir1, r1, r2, lcS, wipeU, lc, q6, jn, fin, frz, Rs.bind, Rs.then]
end K83
namespace K83
open PySem Fn L2 PySem.NumText
/-! ### what is pure stays -/
theorem mapO_id {f : U → Option U} : ∀ {xs : List U}, (∀ x ∈ xs, f x = some x) → mapO f xs = some xs
  | [], _ => rfl
  | x :: r, h => by
    have ih := mapO_id fun y hy => h y (List.mem_cons_of_mem _ hy)
    simp only [mapO, h x List.mem_cons_self, ih]
theorem frz_pure : ∀ (n : Nat) (u : U) (h : List UO), pureU n u = true → frz n h u = some u
  | 0, _, _, e => by simp [pureU] at e
  | n + 1, u, h, e => by
    have go : ∀ xs : List U, xs.all (pureU n) = true → mapO (frz n h) xs = some xs := fun xs hx => mapO_id fun x hm => frz_pure n x h (List.all_eq_true.mp hx x hm)
    cases u with
    | ref i => simp [pureU] at e
    | tup xs => have e : xs.all (pureU n) = true := e; show (match mapO (frz n h) xs with | some ys => some (U.tup ys) | none => none) = _; rw [go xs e]
    | fl xs => have e : xs.all (pureU n) = true := e; show (match mapO (frz n h) xs with | some ys => some (U.fl ys) | none => none) = _; rw [go xs e]
    | ob c xs => have e : xs.all (pureU n) = true := e; show (match mapO (frz n h) xs with | some ys => some (U.ob c ys) | none => none) = _; rw [go xs e]
    | tx xs => have e : xs.all (pureU n) = true := e; show (match mapO (frz n h) xs with | some ys => some (U.tx ys) | none => none) = _; rw [go xs e]
    | _ => rfl
theorem pure_tab (n : Nat) (R : List (List En)) : pureU (n + 4) (tabU R) = true := by
  show (R.map flR).all (pureU (n + 3)) = true
  rw [List.all_map, List.all_eq_true]
  intro r _
  show (r.map pU).all (pureU (n + 2)) = true
  rw [List.all_map, List.all_eq_true]
  intro p _
  rfl
theorem pure_matn (n : Nat) (R : List (List En)) : pureU (n + 5) (matU R) = true := by
  have q : pureU (n + 4) (.tup (R.map tupR)) = true := by
    show (R.map tupR).all (pureU (n + 3)) = true
    rw [List.all_map, List.all_eq_true]
    intro r _
    show (r.map rU).all (pureU (n + 2)) = true
    rw [List.all_map, List.all_eq_true]
    intro p _
    rfl
  show List.all [.int (R.length : Nat), .tup (R.map tupR)] (pureU (n + 4)) = true
  rw [List.all_cons, List.all_cons, q]
  rfl
theorem pure_strs (n : Nat) (L : List Str) : pureU (n + 2) (.fl (L.map .str)) = true := by
  show (L.map U.str).all (pureU (n + 1)) = true
  rw [List.all_map, List.all_eq_true]
  intro p _
  rfl
theorem frz_ref {n p : Nat} {h : List UO} {L : List Str} (e : h[p]? = some (.lst (L.map .str))) : frz (n + 3) h (.ref p) = some (.fl (L.map .str)) := by
  have q : mapO (frz (n + 2) h) (L.map U.str) = some (L.map U.str) := mapO_id fun x hx => by
    obtain ⟨y, _, rfl⟩ := List.mem_map.mp hx
    rfl
  show (match h[p]? with | some (.lst xs) => (match mapO (frz (n + 2) h) xs with | some ys => some (U.fl ys) | none => none) | _ => none) = _
  rw [e]
  dsimp only
  rw [q]
/-! ### dicts -/
section
variable {κ α : Type} [DecidableEq κ]
def emb (f : α → U) (l : List (κ × α)) : List (κ × U) := l.map fun x => (x.1, f x.2)
def putA (l : List (κ × α)) (k : κ) (a : α) : List (κ × α) := match l.any fun kv => decide (kv.1 = k) with
  | true => l.map fun kv => match decide (kv.1 = k) with | true => (kv.1, a) | false => kv
  | false => l ++ [(k, a)]
def valA (l : List (κ × α)) (k : κ) : Option α := match l with
  | [] => none
  | p :: r => match decide (p.1 = k) with | true => some p.2 | false => valA r k
theorem putU_emb (f : α → U) (l : List (κ × α)) (k : κ) (a : α) : putU (emb f l) k (f a) = emb f (putA l k a) := by
  unfold putU putA emb
  rw [List.any_map]
  show (match l.any (fun kv => decide (kv.1 = k)) with | true => _ | false => _) = _
  cases l.any fun kv => decide (kv.1 = k) with
  | false => simp
  | true =>
    dsimp only
    rw [List.map_map, List.map_map]
    refine List.map_congr_left fun x _ => ?_
    show (match decide (x.1 = k) with | true => _ | false => _) = _
    show _ = ((match decide (x.1 = k) with | true => (x.1, a) | false => x).1, f (match decide (x.1 = k) with | true => (x.1, a) | false => x).2)
    cases decide (x.1 = k) <;> rfl
theorem valU_emb (f : α → U) (k : κ) : ∀ l : List (κ × α), valU (emb f l) k = (valA l k).map f
  | [] => rfl
  | p :: r => by
    have ih := valU_emb f k r
    show (match decide (p.1 = k) with | true => some (f p.2) | false => valU (emb f r) k) = Option.map f (match decide (p.1 = k) with | true => some p.2 | false => valA r k)
    cases decide (p.1 = k) with
    | true => rfl
    | false => exact ih
theorem putA_mem {l : List (κ × α)} {k : κ} {a : α} {x : κ × α} (h : x ∈ putA l k a) : x = (k, a) ∨ x ∈ l := by
  unfold putA at h
  split at h
  · obtain ⟨y, hy, e⟩ := List.mem_map.mp h
    cases q : decide (y.1 = k) with
    | true =>
      rw [q] at e
      have : y.1 = k := by simpa using q
      left; rw [← e, this]
    | false => rw [q] at e; right; rw [← e]; exact hy
  · rcases List.mem_append.mp h with q | q
    · exact .inr q
    · exact .inl (by simpa using q)
theorem putA_len (l : List (κ × α)) (k : κ) (a : α) : (putA l k a).length ≤ l.length + 1 := by
  unfold putA
  split <;> simp
theorem valA_put (l : List (κ × α)) (k : κ) (a : α) : valA (putA l k a) k = some a := by
  unfold putA
  cases q : l.any fun kv => decide (kv.1 = k) with
  | true =>
    dsimp only
    induction l with
    | nil => simp at q
    | cons y r ih =>
      rw [List.map_cons]
      show (match decide (Prod.fst (match decide (y.1 = k) with | true => (y.1, a) | false => y) = k) with | true => some (Prod.snd (match decide (y.1 = k) with | true => (y.1, a) | false => y)) | false => valA _ k) = _
      cases q2 : decide (y.1 = k) with
      | true => dsimp only; rw [q2]
      | false =>
        dsimp only
        rw [q2]
        dsimp only
        refine ih ?_
        rw [List.any_cons, q2] at q
        simpa using q
  | false =>
    dsimp only
    induction l with
    | nil => show (match decide (k = k) with | true => some a | false => none) = some a; simp
    | cons y r ih =>
      rw [List.any_cons, Bool.or_eq_false_iff] at q
      show (match decide (y.1 = k) with | true => some y.2 | false => valA (r ++ [(k, a)]) k) = _
      rw [q.1]
      exact ih q.2
theorem valA_mem {l : List (κ × α)} {k : κ} {x : κ × α} (hx : x ∈ l) (e : x.1 = k) : ∃ y ∈ l, y.1 = k ∧ valA l k = some y.2 := by
  induction l with
  | nil => cases hx
  | cons y r ih =>
    show ∃ z ∈ y :: r, z.1 = k ∧ (match decide (y.1 = k) with | true => some y.2 | false => valA r k) = some z.2
    by_cases q : y.1 = k
    · exact ⟨y, List.mem_cons_self, q, by simp [q]⟩
    · rcases List.mem_cons.mp hx with h | h
      · rw [h] at e; exact absurd e q
      · obtain ⟨z, hz, e1, e2⟩ := ih h
        exact ⟨z, List.mem_cons_of_mem _ hz, e1, by simp [q, e2]⟩
end
/-! ### tables by size -/
theorem fnilE {P : En → Prop} : ∀ x ∈ ([] : List En), P x := fun _ h => by cases h
theorem fconsE {α : Type} {P : α → Prop} {a : α} {l : List α} (h : P a) (t : ∀ x ∈ l, P x) : ∀ x ∈ a :: l, P x := fun x hx => by
  rcases List.mem_cons.mp hx with e | e
  · rw [e]; exact h
  · exact t x e
theorem table_ok (ns : List Int) (hb : ∀ z ∈ ns, Nat.log2 z.natAbs ≤ 1048576) (hn : ns.length ≤ 63) (k : Nat) (hk : k ≤ 500) (n : Nat) (h1 : 1 ≤ n) (h3 : n ≤ 3) : ∃ R, Tab R ∧ F__law_table [.scr ns, .int (k : Int), .int (n : Int)] = .ok (tabU R) := by
  have nl : ∀ {β : Type} {P : β → Prop}, ∀ x ∈ ([] : List β), P x := fun _ h => by cases h
  match n, h1, h3 with
  | 1, _, _ =>
    obtain ⟨a, oa, e⟩ := table1 ns hb hn k hk
    exact ⟨[[a]], ⟨by simp, fconsE rfl nl, fconsE (fconsE oa nl) nl⟩, e⟩
  | 2, _, _ =>
    obtain ⟨a, b, c, d, oa, ob, oc, od, e⟩ := table2 ns hb hn k hk
    exact ⟨[[a, b], [c, d]], ⟨by simp, fconsE rfl (fconsE rfl nl), fconsE (fconsE oa (fconsE ob nl)) (fconsE (fconsE oc (fconsE od nl)) nl)⟩, e⟩
  | 3, _, _ =>
    obtain ⟨a, b, c, d, f, g, h, i, j, oa, ob, oc, od, of, og, oh, oi, oj, e⟩ := table3 ns hb hn k hk
    exact ⟨[[a, b, c], [d, f, g], [h, i, j]], ⟨by simp, fconsE rfl (fconsE rfl (fconsE rfl nl)), fconsE (fconsE oa (fconsE ob (fconsE oc nl))) (fconsE (fconsE od (fconsE of (fconsE og nl))) (fconsE (fconsE oh (fconsE oi (fconsE oj nl))) nl))⟩, e⟩
end K83
namespace K83
open PySem Fn L2 PySem.NumText
/-! ### the drawn matrices -/
open Classical in
noncomputable def LN (R : List (List En)) : List Str := if h : LinesOk R then h.choose else []
theorem LN_spec {R : List (List En)} (t : Tab R) : 1 ≤ (LN R).length ∧ (LN R).length ≤ 3 ∧ (∀ x ∈ LN R, PyData.strOk x = true) ∧ F__law_lines [tabU R] = .ok (.fl ((LN R).map .str)) ∧ ∀ h, F_matrix_lines [matU R] h = .ok (.ref h.length) (h ++ [.lst ((LN R).map .str)]) := by
  have h := lines_ok t
  unfold LN
  rw [dif_pos h]
  exact h.choose_spec
abbrev As := List (Key × List (List En))
/-- letters, each with a table -/
def Al (l : As) : Prop := ∀ x ∈ l, Tab x.2 ∧ ∃ c : Nat, c < 1000 ∧ x.1 = .inr (T [c])
theorem Al.put {l : As} (h : Al l) {c : Nat} (hc : c < 1000) {R : List (List En)} (t : Tab R) : Al (putA l (.inr (T [c])) R) := fun x hx => by
  rcases putA_mem hx with e | e
  · rw [e]; exact ⟨t, c, hc, rfl⟩
  · exact h x e
def bodyL : Sv := (gSeq (gSet 12 (eMt kPopAt (eVar 6) (eCons (e2 (kI cMod Int.fmod) (eCall kInt (eCons (e2 (kI cDivA Int.fdiv) (eVar 1) (eC (.int 5))) eNil)) (eCall kLen (eCons (eVar 6) eNil))) eNil)))
  (gSeq (gSet 1 (e2 kAdd (e2 (kI cDivA Int.fdiv) (eVar 1) (eC (.int 5))) (e2 kMulW (eC (.int 3)) (eVar 9))))
  (gSeq (gPutK (eVar 8) (eVar 12) (eCallG 3 F__law_table (eCons (eVar 0) (eCons (e2 kAdd (eC (.int 11)) (e2 kMulW (eC (.int 9)) (eVar 9))) (eCons (e2 kAdd (eC (.int 1)) (e2 (kI cMod Int.fmod) (eCall kInt (eCons (e2 (kI cDivA Int.fdiv) (eVar 1) (eC (.int 6))) eNil)) (eC (.int 3)))) eNil)))))
  (gPutK (eVar 7) (eVar 12) (eCallG 2 F__law_filled (eCons (e2 kDget (eVar 8) (eVar 12)) (eCons (e2 kEq (e2 (kI cMod Int.fmod) (eCall kInt (eCons (eVar 1) eNil)) (eC (.int 2))) (eC (.int 0))) eNil)))))))
def lets (cs : List Nat) : List U := cs.map fun c => .str (T [c])
theorem lets_erase : ∀ (j : Nat) (cs : List Nat), (lets cs).eraseIdx j = lets (cs.eraseIdx j)
  | _, [] => rfl
  | 0, _ :: _ => rfl
  | j + 1, c :: r => congrArg (U.str (T [c]) :: ·) (lets_erase j r)
theorem callG_eq {n : Nat} {f : Fg} {fa : EvA} {us : Lo} {h h1 : List UO} {as : List U} {u : U} (e : fa us h = .ok as h1) (p : (as.length == n && as.all (pureU 10)) = true) (ef : f as = .ok u) : eCallG n f fa us h = .ok u h1 := by
  unfold eCallG
  rw [e]
  show (match as.length == n && as.all (pureU 10) with | true => (match f as with | .ok u => Rs.ok u h1 | .ex e => .ex e h1 | .no => .no) | false => .no) = _
  rw [p, ef]
theorem callR_eq {n : Nat} {f : Fg} {fa : EvA} {us : Lo} {h h1 : List UO} {as bs : List U} {u : U} (e : fa us h = .ok as h1) (fz : mapO (frz 8 h1) as = some bs) (p : (as.length == n) = true) (ef : f bs = .ok u) (pl : plainU 10 u = true) : eCallR n f fa us h = .ok u h1 := by
  unfold eCallR
  rw [e]
  show (match mapO (frz 8 h1) as with | some bs => (match as.length == n with | true => (match f bs with | .ok u => (match plainU 10 u with | true => Rs.ok u h1 | false => .no) | .ex ⟨c, []⟩ => .ex ⟨c, []⟩ h1 | _ => .no) | false => .no) | none => .no) = _
  rw [fz, p]
  dsimp only
  rw [ef]
  dsimp only
  rw [pl]
theorem callH_eq {n : Nat} {f : Fh} {fa : EvA} {us : Lo} {h h1 : List UO} {as : List U} {r : Rs U} (e : fa us h = .ok as h1) (p : (as.length == n) = true) (ef : f as h1 = r) : eCallH n f fa us h = r := by
  unfold eCallH
  rw [e]
  show (match as.length == n with | true => f as h1 | false => .no) = _
  rw [p, ef]
theorem putK_eq {fo fi fv : Ev} {us : Lo} {h h1 h2 h3 : List UO} {p : Nat} {k : Key} {ku v : U} {acc : List (Key × U)} (e1 : fv us h = .ok v h1) (e2 : fo us h1 = .ok (.ref p) h2) (e3 : fi us h2 = .ok ku h3) (ek : keyU ku = some k) (eh : h3[p]? = some (.dk acc)) (hl : acc.length < 16777216) : gPutK fo fi fv us h = .nx us (h3.set p (.dk (putU acc k v))) := by
  unfold gPutK
  rw [e1]
  show ((fo us h1).then us _) = _
  rw [e2]
  show ((fi us h2).then us _) = _
  rw [e3]
  show ((putP p ku v h3).then us _) = _
  unfold putP
  rw [ek, eh]
  have : Nat.blt acc.length 16777216 = true := Nat.ble_eq_true_of_le (by omega)
  dsimp only
  rw [this]
  rfl
theorem emb_len {κ α : Type} (f : α → U) (l : List (κ × α)) : (emb f l).length = l.length := by simp [emb]
theorem big_next {v : Int} (h : big v) (i : Nat) (hi : i ≤ 10) : big (v.fdiv 5 + 3 * (i : Int)) := by
  obtain ⟨h0, h1⟩ := h
  have q0 : v.fdiv 5 = v / 5 := Int.fdiv_eq_ediv_of_nonneg v (by decide)
  refine ⟨by rw [q0]; omega, ?_⟩
  rw [q0]
  by_cases hv : 100 ≤ v
  · have : (v / 5 + 3 * (i : Int)).natAbs ≤ v.natAbs := by omega
    exact Nat.le_trans (log_le this) h1
  · have : (v / 5 + 3 * (i : Int)).natAbs ≤ 1000 := by omega
    exact Nat.le_trans (log_le this) (by decide +kernel)
theorem drawStep (ns : List Int) (hb : ∀ z ∈ ns, Nat.log2 z.natAbs ≤ 1048576) (hn : ns.length ≤ 63) (x2 x3 x4 x5 x12 : Option U) (o0 o1 : UO) (i : Nat) (hi : i ≤ 10) (v : Int) (hv : big v) (cs : List Nat) (hc : ∀ c ∈ cs, c < 1000) (h1 : 1 ≤ cs.length) (h6 : cs.length ≤ 6) (l : As) (hl : Al l) (hs : l.length ≤ 10) :
    ∃ v' cs' l' x12', big v' ∧ (∀ c ∈ cs', c < 1000) ∧ cs'.length + 1 = cs.length ∧ Al l' ∧ l'.length ≤ l.length + 1 ∧
      bodyL [some (.scr ns), some (.int v), x2, x3, x4, x5, some (.ref 2), some (.ref 3), some (.ref 4), some (.int (i : Int)), none, none, x12] [o0, o1, .lst (lets cs), .dk (emb matU l), .dk (emb tabU l)]
      = .nx [some (.scr ns), some (.int v'), x2, x3, x4, x5, some (.ref 2), some (.ref 3), some (.ref 4), some (.int (i : Int)), none, none, x12'] [o0, o1, .lst (lets cs'), .dk (emb matU l'), .dk (emb tabU l')] := by
  have d5 : ∀ x, cDivA x 5 = true := fun x => by
    have : cDivA 0 5 = true := by decide +kernel
    exact this
  have d6 : ∀ x, cDivA x 6 = true := fun x => by
    have : cDivA 0 6 = true := by decide +kernel
    exact this
  have m2 : ∀ x, cMod x 2 = true := fun x => rfl
  have m3 : ∀ x, cMod x 3 = true := fun x => rfl
  obtain ⟨w, ew⟩ : ∃ w, v.fdiv 5 = w := ⟨_, rfl⟩
  obtain ⟨j, ej, hj⟩ := fmod_lt w cs.length h1
  have mj : cMod w (cs.length : Int) = true := by
    unfold cMod
    simp
    intro e; rw [e] at h1; simp at h1
  have ll : (lets cs).length = cs.length := by simp [lets]
  have ix : ixN cs.length (j : Int) = some j := by
    unfold ixN
    rw [if_pos (by omega), if_pos (by omega)]
    rfl
  have gj : (lets cs)[j]? = some (.str (T [cs[j]])) := by
    unfold lets
    rw [List.getElem?_map, List.getElem?_eq_getElem hj]
    rfl
  have ez : szOk cs.length = true := szOk_of (by omega)
  have er : (lets cs).eraseIdx j = lets (cs.eraseIdx j) := lets_erase j cs
  obtain ⟨c, ec⟩ : ∃ c, cs[j] = c := ⟨_, rfl⟩
  have hcc : c < 1000 := by rw [← ec]; exact hc _ (List.getElem_mem hj)
  rw [ec] at gj
  have c9 : cMulW 9 (i : Int) = true := c_mul (j := 5) (k := 5) (by show (9 : Int).natAbs < 2 ^ 5; decide) (by show (i : Int).natAbs < 2 ^ 5; omega) (by omega)
  have c3 : cMulW 3 (i : Int) = true := c_mul (j := 5) (k := 5) (by show (3 : Int).natAbs < 2 ^ 5; decide) (by show (i : Int).natAbs < 2 ^ 5; omega) (by omega)
  have bn := big_next hv i hi
  rw [ew] at bn
  obtain ⟨v', ev⟩ : ∃ v', w + 3 * (i : Int) = v' := ⟨_, rfl⟩
  rw [ev] at bn
  obtain ⟨w6, e6⟩ : ∃ w6, v'.fdiv 6 = w6 := ⟨_, rfl⟩
  obtain ⟨n, en, hn3⟩ := fmod_lt w6 3 (by decide)
  have en : w6.fmod 3 = (n : Int) := en
  obtain ⟨R, t, et⟩ := table_ok ns hb hn (11 + 9 * i) (by omega) (1 + n) (by omega) (by omega)
  have a1 : (11 : Int) + 9 * (i : Int) = ((11 + 9 * i : Nat) : Int) := by omega
  have a2 : (1 : Int) + (n : Int) = ((1 + n : Nat) : Int) := by omega
  obtain ⟨b, eb⟩ : ∃ b, v'.fmod 2 = b := ⟨_, rfl⟩
  have ef := filled_ok (b == 0) t
  have ps : pureU 10 (.scr ns) = true := rfl
  refine ⟨v', cs.eraseIdx j, putA l (.inr (T [c])) R, some (.str (T [c])), bn, fun x hx => hc x (List.mem_of_mem_eraseIdx hx), by rw [List.length_eraseIdx_of_lt hj]; omega, hl.put hcc t, putA_len _ _ _, ?_⟩
  have pu1 := putU_emb tabU l (.inr (T [c])) R
  have pu2 := putU_emb matU l (.inr (T [c])) R
  have va : valU (emb tabU (putA l (.inr (T [c])) R)) (.inr (T [c])) = some (tabU R) := by
    rw [valU_emb, valA_put]; rfl
  have bl1 : Nat.blt (emb tabU l).length 16777216 = true := Nat.ble_eq_true_of_le (by simp [emb]; omega)
  have bl2 : Nat.blt (emb matU l).length 16777216 = true := Nat.ble_eq_true_of_le (by simp [emb]; omega)
  have fz : ∀ h, frz 8 h (tabU R) = some (tabU R) := fun h => frz_pure 8 _ h (pure_tab 4 R)
  have fb : ∀ h, frz 8 h (.bl (b == 0)) = some (.bl (b == 0)) := fun h => rfl
  have k1 : gSet 12 (eMt kPopAt (eVar 6) (eCons (e2 (kI cMod Int.fmod) (eCall kInt (eCons (e2 (kI cDivA Int.fdiv) (eVar 1) (eC (.int 5))) eNil)) (eCall kLen (eCons (eVar 6) eNil))) eNil)) [some (.scr ns), some (.int v), x2, x3, x4, x5, some (.ref 2), some (.ref 3), some (.ref 4), some (.int (i : Int)), none, none, x12] [o0, o1, .lst (lets cs), .dk (emb matU l), .dk (emb tabU l)]
      = .nx [some (.scr ns), some (.int v), x2, x3, x4, x5, some (.ref 2), some (.ref 3), some (.ref 4), some (.int (i : Int)), none, none, some (.str (T [c]))] [o0, o1, .lst (lets (cs.eraseIdx j)), .dk (emb matU l), .dk (emb tabU l)] := by
    simp [gSet, eMt, eVar, eC, lstU, eCons, eNil, Fn.e2, kI, d5, ew, eCall, kInt, kLen, ll, mj, ej, kPopAt, ix, gj, ez, er, Rs.bind, Rs.then]
  have k2 : gSet 1 (e2 kAdd (e2 (kI cDivA Int.fdiv) (eVar 1) (eC (.int 5))) (e2 kMulW (eC (.int 3)) (eVar 9))) [some (.scr ns), some (.int v), x2, x3, x4, x5, some (.ref 2), some (.ref 3), some (.ref 4), some (.int (i : Int)), none, none, some (.str (T [c]))] [o0, o1, .lst (lets (cs.eraseIdx j)), .dk (emb matU l), .dk (emb tabU l)]
      = .nx [some (.scr ns), some (.int v'), x2, x3, x4, x5, some (.ref 2), some (.ref 3), some (.ref 4), some (.int (i : Int)), none, none, some (.str (T [c]))] [o0, o1, .lst (lets (cs.eraseIdx j)), .dk (emb matU l), .dk (emb tabU l)] := by
    simp [gSet, eVar, eC, Fn.e2, kI, d5, ew, kMulW, c3, kAdd_int, ev, Rs.bind, Rs.then]
  have k3 : gPutK (eVar 8) (eVar 12) (eCallG 3 F__law_table (eCons (eVar 0) (eCons (e2 kAdd (eC (.int 11)) (e2 kMulW (eC (.int 9)) (eVar 9))) (eCons (e2 kAdd (eC (.int 1)) (e2 (kI cMod Int.fmod) (eCall kInt (eCons (e2 (kI cDivA Int.fdiv) (eVar 1) (eC (.int 6))) eNil)) (eC (.int 3)))) eNil)))) [some (.scr ns), some (.int v'), x2, x3, x4, x5, some (.ref 2), some (.ref 3), some (.ref 4), some (.int (i : Int)), none, none, some (.str (T [c]))] [o0, o1, .lst (lets (cs.eraseIdx j)), .dk (emb matU l), .dk (emb tabU l)]
      = .nx [some (.scr ns), some (.int v'), x2, x3, x4, x5, some (.ref 2), some (.ref 3), some (.ref 4), some (.int (i : Int)), none, none, some (.str (T [c]))] [o0, o1, .lst (lets (cs.eraseIdx j)), .dk (emb matU l), .dk (emb tabU (putA l (.inr (T [c])) R))] := by
    refine (putK_eq (h3 := [o0, o1, .lst (lets (cs.eraseIdx j)), .dk (emb matU l), .dk (emb tabU l)]) (acc := emb tabU l) (callG_eq (as := [.scr ns, .int ((11 + 9 * i : Nat) : Int), .int ((1 + n : Nat) : Int)]) ?_ rfl et) rfl rfl rfl rfl (by rw [emb_len]; omega)).trans ?_
    · simp only [eCons, eNil, eVar, eC, Fn.e2, List.getElem?_cons_zero, List.getElem?_cons_succ, kMulW, c9, kAdd_int, kI, d6, e6, eCall, kInt, m3, en, a1, a2, Rs.bind]
    · rw [pu1]; rfl
  have k4 : gPutK (eVar 7) (eVar 12) (eCallG 2 F__law_filled (eCons (e2 kDget (eVar 8) (eVar 12)) (eCons (e2 kEq (e2 (kI cMod Int.fmod) (eCall kInt (eCons (eVar 1) eNil)) (eC (.int 2))) (eC (.int 0))) eNil))) [some (.scr ns), some (.int v'), x2, x3, x4, x5, some (.ref 2), some (.ref 3), some (.ref 4), some (.int (i : Int)), none, none, some (.str (T [c]))] [o0, o1, .lst (lets (cs.eraseIdx j)), .dk (emb matU l), .dk (emb tabU (putA l (.inr (T [c])) R))]
      = .nx [some (.scr ns), some (.int v'), x2, x3, x4, x5, some (.ref 2), some (.ref 3), some (.ref 4), some (.int (i : Int)), none, none, some (.str (T [c]))] [o0, o1, .lst (lets (cs.eraseIdx j)), .dk (emb matU (putA l (.inr (T [c])) R)), .dk (emb tabU (putA l (.inr (T [c])) R))] := by
    refine (putK_eq (h3 := [o0, o1, .lst (lets (cs.eraseIdx j)), .dk (emb matU l), .dk (emb tabU (putA l (.inr (T [c])) R))]) (acc := emb matU l) (callG_eq (as := [tabU R, .bl (b == 0)]) ?_ (by rw [List.all_cons, pure_tab 6 R]; rfl) ef) rfl rfl rfl rfl (by rw [emb_len]; omega)).trans ?_
    · simp only [eCons, eNil, eVar, eC, Fn.e2, List.getElem?_cons_zero, List.getElem?_cons_succ, kDget, keyU, va, kI, eCall, kInt, m2, eb, kEq, eqD_int, Rs.bind]
    · rw [pu2]; rfl
  unfold bodyL
  rw [gSeq_nx k1, gSeq_nx k2, gSeq_nx k3, k4]
end K83
namespace K83
open PySem Fn L2 PySem.NumText
theorem drawLoop (ns : List Int) (hb : ∀ z ∈ ns, Nat.log2 z.natAbs ≤ 1048576) (hn : ns.length ≤ 63) (x2 x3 x4 x5 : Option U) (o0 o1 : UO) : ∀ (xs : List Nat) (x9 x12 : Option U) (v : Int) (cs : List Nat) (l : As), (∀ i ∈ xs, i ≤ 10) → big v → (∀ c ∈ cs, c < 1000) → xs.length ≤ cs.length → cs.length ≤ 6 → Al l → l.length + xs.length ≤ 10 →
    ∃ v' cs' l' x9' x12', Al l' ∧ l'.length ≤ l.length + xs.length ∧
      forL (aName 9) bodyL (xs.map fun i : Nat => .int (i : Int)) [some (.scr ns), some (.int v), x2, x3, x4, x5, some (.ref 2), some (.ref 3), some (.ref 4), x9, none, none, x12] [o0, o1, .lst (lets cs), .dk (emb matU l), .dk (emb tabU l)]
      = .nx [some (.scr ns), some (.int v'), x2, x3, x4, x5, some (.ref 2), some (.ref 3), some (.ref 4), x9', none, none, x12'] [o0, o1, .lst (lets cs'), .dk (emb matU l'), .dk (emb tabU l')]
  | [], x9, x12, v, cs, l, _, _, _, _, _, hl, _ => ⟨v, cs, l, x9, x12, hl, Nat.le_refl _, rfl⟩
  | i :: r, x9, x12, v, cs, l, hi, hv, hc, hx, h6, hl, hs => by
    rw [List.length_cons] at hx hs
    obtain ⟨v1, cs1, l1, y12, hv1, hc1, e1, hl1, s1, st⟩ := drawStep ns hb hn x2 x3 x4 x5 x12 o0 o1 i (hi i List.mem_cons_self) v hv cs hc (by omega) h6 l hl (by omega)
    obtain ⟨v', cs', l', x9', x12', hl', s', e⟩ := drawLoop ns hb hn x2 x3 x4 x5 o0 o1 r (some (.int (i : Int))) y12 v1 cs1 l1 (fun j hj => hi j (List.mem_cons_of_mem _ hj)) hv1 hc1 (by omega) (by omega) hl1 (by omega)
    refine ⟨v', cs', l', x9', x12', hl', by rw [List.length_cons]; omega, ?_⟩
    rw [List.map_cons]
    show (match bodyL [some (.scr ns), some (.int v), x2, x3, x4, x5, some (.ref 2), some (.ref 3), some (.ref 4), some (.int (i : Int)), none, none, x12] [o0, o1, .lst (lets cs), .dk (emb matU l), .dk (emb tabU l)] with | .nx us2 h2 => forL (aName 9) bodyL (r.map fun i : Nat => .int (i : Int)) us2 h2 | .ct us2 h2 => forL (aName 9) bodyL (r.map fun i : Nat => .int (i : Int)) us2 h2 | .bk us2 h2 => .nx us2 h2 | q => q) = _
    rw [st]
    exact e
/-! ### the keys -/
def kys (l : As) : List Str := List.map (fun (x : Key × List (List En)) => match x.1 with | .inr s => s | .inl _ => T []) l
theorem kys_inr {l : As} (h : Al l) : List.map Prod.fst l = (kys l).map Sum.inr := by
  unfold kys
  rw [List.map_map]
  refine List.map_congr_left fun x hx => ?_
  obtain ⟨_, c, _, e⟩ := h x hx
  show x.1 = Sum.inr (match x.1 with | .inr s => s | .inl _ => T [])
  rw [e]
theorem kys_mem {l : As} (h : Al l) {k : Str} (hk : k ∈ kys l) : (∃ c, c < 1000 ∧ k = T [c]) ∧ ∃ R, Tab R ∧ valA l (.inr k) = some R := by
  unfold kys at hk
  obtain ⟨x, hx, e⟩ := List.mem_map.mp hk
  obtain ⟨t, c, hc, ex⟩ := h x hx
  rw [ex] at e
  dsimp only at e
  refine ⟨⟨c, hc, e.symm⟩, ?_⟩
  obtain ⟨y, hy, _, e2⟩ := valA_mem (k := Sum.inr k) hx (by rw [ex, e])
  exact ⟨y.2, (h y hy).1, e2⟩
theorem kys_len (l : As) : (kys l).length = l.length := by simp [kys]
theorem keysStr_map : ∀ ys : List Str, keysStr (ys.map Sum.inr) = some ys
  | [] => rfl
  | y :: r => by
    show (match keysStr (r.map Sum.inr) with | some ys => some (y :: ys) | none => none) = _
    rw [keysStr_map r]
theorem emb_keys (f : List (List En) → U) (l : As) : (emb f l).map Prod.fst = List.map Prod.fst l := by
  unfold emb
  rw [List.map_map]
  rfl
theorem dkKeys_emb {f : List (List En) → U} {l : As} (h : Al l) {hp : List UO} {p : Nat} (e : hp[p]? = some (.dk (emb f l))) : dkKeys hp (.ref p) = some ((kys l).map Sum.inr) := by
  show (match hp[p]? with | some (.dk kvs) => some (kvs.map Prod.fst) | _ => none) = _
  rw [e]
  dsimp only
  rw [emb_keys, kys_inr h]
theorem sorted_emb {f : List (List En) → U} {l : As} (h : Al l) (h10 : l.length ≤ 10) {hp : List UO} {p : Nat} (e : hp[p]? = some (.dk (emb f l))) : kSortedDK [.ref p] hp = .ok (.fl ((sortSt (kys l)).map .str)) hp := by
  show (match dkKeys hp (.ref p) with
    | some ks => (match keysStr ks with
      | some ys => (match Nat.blt ys.length 64 with | true => Rs.ok (U.fl ((sortSt ys).map U.str)) hp | false => .no)
      | none => .no)
    | none => .no) = _
  rw [dkKeys_emb h e]
  dsimp only
  rw [keysStr_map]
  dsimp only
  have : Nat.blt (kys l).length 64 = true := Nat.ble_eq_true_of_le (by rw [kys_len]; omega)
  rw [this]
theorem list_emb {f : List (List En) → U} {l : As} (h : Al l) {hp : List UO} {p : Nat} (e : hp[p]? = some (.dk (emb f l))) {fa : EvA} {us : Lo} (ea : fa us hp = .ok [.ref p] hp) : eListDK fa us hp = .ok ((kys l).map .str) hp := by
  unfold eListDK
  rw [ea]
  show (match dkKeys hp (.ref p) with | some ks => Rs.ok (ks.map keyB) hp | none => .no) = _
  rw [dkKeys_emb h e]
  dsimp only
  rw [List.map_map]
  rfl
theorem dget_emb {f : List (List En) → U} {l : As} {hp : List UO} {p : Nat} (e : hp[p]? = some (.dk (emb f l))) {k : Str} {R : List (List En)} (ev : valA l (.inr k) = some R) : kDget (.ref p) (.str k) hp = .ok (f R) hp := by
  show (match hp[p]? with | some (.dk kvs) => (match valU kvs (Sum.inr k) with | some u => Rs.ok u hp | none => .no) | _ => .no) = _
  rw [e]
  dsimp only
  rw [valU_emb, ev]
  rfl
/-! ### the section -/
noncomputable def sec (l : As) (ks : List Str) : List Str := ks.flatMap fun k => (k ++ T [58]) :: LN ((valA l (.inr k)).getD [])
theorem t_colon : Str.ofString ":" = T [58] := by decide +kernel
theorem sec_ok {l : As} (h : Al l) : ∀ ks : List Str, (∀ k ∈ ks, k ∈ kys l) → (sec l ks).length ≤ 4 * ks.length ∧ ∀ x ∈ sec l ks, PyData.strOk x = true
  | [], _ => ⟨by simp [sec], by simp [sec]⟩
  | k :: r, hk => by
    obtain ⟨i1, i2⟩ := sec_ok h r fun x hx => hk x (List.mem_cons_of_mem _ hx)
    obtain ⟨⟨c, hc, ek⟩, R, t, ev⟩ := kys_mem h (hk k List.mem_cons_self)
    obtain ⟨n1, n3, s1, _, _⟩ := LN_spec t
    have e : sec l (k :: r) = (k ++ T [58]) :: (LN R ++ sec l r) := by
      unfold sec
      rw [List.flatMap_cons, ev]
      rfl
    rw [e]
    refine ⟨by simp; omega, fun x hx => ?_⟩
    rcases List.mem_cons.mp hx with q | q
    · rw [q, ek, T_app]; exact ok_T (by simp; omega)
    · rcases List.mem_append.mp q with q | q
      · exact s1 x q
      · exact i2 x q
def bodyS : Sv := (gSeq (gEx (eMt kAppend (eVar 11) (eCons (e2 kAdd (eVar 12) (eC (.str ":"))) eNil)))
  (gEx (eMt kExtend (eVar 11) (eCons (eCallG 1 F__law_lines (eCons (e2 kDget (eVar 8) (eVar 12)) eNil)) eNil))))
theorem append_str {p : Nat} {h : List UO} {acc : List Str} {x : Str} (e : h[p]? = some (.lst (acc.map .str))) (hl : acc.length ≤ 1000) : kAppend (.ref p) [.str x] h = .ok .non (h.set p (.lst ((acc ++ [x]).map .str))) := by
  have z : szOk ((acc.map U.str).length + 1) = true := szOk_of (by rw [List.length_map]; omega)
  simp [kAppend, e]
  rw [List.length_map] at z
  rw [z]
theorem extend_str {p : Nat} {h : List UO} {acc L : List Str} {y : U} (e : h[p]? = some (.lst (acc.map .str))) (ey : lstH h y = some (L.map .str)) (hl : acc.length + L.length ≤ 1000) : kExtend (.ref p) [y] h = .ok .non (h.set p (.lst ((acc ++ L).map .str))) := by
  have z : szOk ((acc.map U.str).length + (L.map U.str).length) = true := szOk_of (by rw [List.length_map, List.length_map]; omega)
  show (match h[p]?, lstH h y with
    | some (.lst xs), some ys => (match szOk (xs.length + ys.length) with | true => Rs.ok U.non (h.set p (.lst (xs ++ ys))) | false => .no)
    | _, _ => .no) = _
  rw [e, ey]
  dsimp only
  rw [z]
  dsimp only
  rw [List.map_append]
theorem set2 {h : List UO} {q : Nat} {a b : UO} : (h.set q a).set q b = h.set q b := List.set_set ..
theorem secLoop {l : As} (hl : Al l) (x0 x1 x2 x3 x4 x5 x6 x7 x9 x10 : Option U) : ∀ (ks : List Str) (x12 : Option U) (acc : List Str) (h : List UO), (∀ k ∈ ks, k ∈ kys l) → h[4]? = some (.dk (emb tabU l)) → h[5]? = some (.lst (acc.map .str)) → acc.length + 4 * ks.length ≤ 1000 →
    ∃ x12', forL (aName 12) bodyS (ks.map .str) [x0, x1, x2, x3, x4, x5, x6, x7, some (.ref 4), x9, x10, some (.ref 5), x12] h = .nx [x0, x1, x2, x3, x4, x5, x6, x7, some (.ref 4), x9, x10, some (.ref 5), x12'] (h.set 5 (.lst ((acc ++ sec l ks).map .str)))
  | [], x12, acc, h, _, _, h5, _ => by
    refine ⟨x12, ?_⟩
    have e : h.set 5 (.lst ((acc ++ sec l []).map .str)) = h := by
      obtain ⟨hl, e⟩ := List.getElem?_eq_some_iff.mp h5
      show h.set 5 (.lst ((acc ++ []).map .str)) = h
      rw [List.append_nil, ← e]
      exact List.set_getElem_self hl
    rw [e]
    rfl
  | k :: r, x12, acc, h, hk, h4, h5, hn => by
    rw [List.length_cons] at hn
    obtain ⟨⟨c, hc, ek⟩, R, t, ev⟩ := kys_mem hl (hk k List.mem_cons_self)
    obtain ⟨n1, n3, s1, le, _⟩ := LN_spec t
    have lt5 : 5 < h.length := (List.getElem?_eq_some_iff.mp h5).1
    let h' := h.set 5 (.lst ((acc ++ [k ++ T [58]]).map .str))
    have g4 : h'[4]? = some (.dk (emb tabU l)) := by rw [List.getElem?_set_ne (by omega)]; exact h4
    have g5 : h'[5]? = some (.lst ((acc ++ [k ++ T [58]]).map .str)) := List.getElem?_set_self lt5
    let acc2 := acc ++ [k ++ T [58]] ++ LN R
    have a1 : ∀ h, kAdd (.str k) (.str (T [58])) h = .ok (.str (k ++ T [58])) h := fun h => by rw [ek, add_T (by simp) h, T_app]
    have k1 : (gEx (eMt kAppend (eVar 11) (eCons (e2 kAdd (eVar 12) (eC (.str ":"))) eNil))) [x0, x1, x2, x3, x4, x5, x6, x7, some (.ref 4), x9, x10, some (.ref 5), some (.str k)] h = .nx [x0, x1, x2, x3, x4, x5, x6, x7, some (.ref 4), x9, x10, some (.ref 5), some (.str k)] h' := by
      have l5 : lstU h (.ref 5) = some (acc.map .str) := by
        show (match h[5]? with | some (.lst xs) => some xs | _ => none) = _
        rw [h5]
      have ap := append_str (x := k ++ T [58]) h5 (by omega)
      simp only [gEx, eMt, eVar, eC, eCons, eNil, Fn.e2, List.getElem?_cons_zero, List.getElem?_cons_succ, l5, t_colon, a1, ap, Rs.bind, Rs.then]
      rfl
    have cg : eCallG 1 F__law_lines (eCons (e2 kDget (eVar 8) (eVar 12)) eNil) [x0, x1, x2, x3, x4, x5, x6, x7, some (.ref 4), x9, x10, some (.ref 5), some (.str k)] h' = .ok (.fl ((LN R).map .str)) h' := callG_eq (as := [tabU R]) (by simp only [eCons, eNil, eVar, Fn.e2, List.getElem?_cons_zero, List.getElem?_cons_succ, dget_emb g4 ev, Rs.bind]) (by rw [List.all_cons, pure_tab 6 R]; rfl) le
    have k2 : (gEx (eMt kExtend (eVar 11) (eCons (eCallG 1 F__law_lines (eCons (e2 kDget (eVar 8) (eVar 12)) eNil)) eNil))) [x0, x1, x2, x3, x4, x5, x6, x7, some (.ref 4), x9, x10, some (.ref 5), some (.str k)] h' = .nx [x0, x1, x2, x3, x4, x5, x6, x7, some (.ref 4), x9, x10, some (.ref 5), some (.str k)] (h.set 5 (.lst (acc2.map .str))) := by
      have l5 : lstU h' (.ref 5) = some ((acc ++ [k ++ T [58]]).map .str) := by
        show (match h'[5]? with | some (.lst xs) => some xs | _ => none) = _
        rw [g5]
      have ex := extend_str (y := .fl ((LN R).map .str)) g5 rfl (by simp; omega)
      have e2 : h'.set 5 (.lst (acc2.map .str)) = h.set 5 (.lst (acc2.map .str)) := set2
      show (Rs.bind (eVar 11 _ h') _).then _ _ = _
      simp only [eMt, eVar, eCons, eNil, List.getElem?_cons_zero, List.getElem?_cons_succ, l5, Rs.bind]
      rw [cg]
      simp only [Rs.bind]
      rw [ex]
      simp only [Rs.then]
      rw [e2]
    have j4 : (h.set 5 (.lst (acc2.map .str)))[4]? = some (.dk (emb tabU l)) := by rw [List.getElem?_set_ne (by omega)]; exact h4
    have j5 : (h.set 5 (.lst (acc2.map .str)))[5]? = some (.lst (acc2.map .str)) := List.getElem?_set_self lt5
    obtain ⟨x12', ih⟩ := secLoop hl x0 x1 x2 x3 x4 x5 x6 x7 x9 x10 r (some (.str k)) acc2 (h.set 5 (.lst (acc2.map .str))) (fun x hx => hk x (List.mem_cons_of_mem _ hx)) j4 j5 (by simp [acc2]; omega)
    refine ⟨x12', ?_⟩
    have st : bodyS [x0, x1, x2, x3, x4, x5, x6, x7, some (.ref 4), x9, x10, some (.ref 5), some (.str k)] h = .nx [x0, x1, x2, x3, x4, x5, x6, x7, some (.ref 4), x9, x10, some (.ref 5), some (.str k)] (h.set 5 (.lst (acc2.map .str))) := by
      unfold bodyS
      rw [gSeq_nx k1, k2]
    have ee : acc2 ++ sec l r = acc ++ sec l (k :: r) := by
      show acc ++ [k ++ T [58]] ++ LN R ++ sec l r = acc ++ sec l (k :: r)
      unfold sec
      rw [List.flatMap_cons, ev]
      simp
    rw [List.map_cons]
    show (match bodyS [x0, x1, x2, x3, x4, x5, x6, x7, some (.ref 4), x9, x10, some (.ref 5), some (.str k)] h with | .nx us2 h2 => forL (aName 12) bodyS (r.map .str) us2 h2 | .ct us2 h2 => forL (aName 12) bodyS (r.map .str) us2 h2 | .bk us2 h2 => .nx us2 h2 | q => q) = _
    rw [st]
    dsimp only
    rw [ih, set2, ee]
end K83
namespace K83
open PySem Fn L2 PySem.NumText
def bodyP : Sv := (gSeq (gEx (eMt kAppend (eVar 1) (eCons (e2 kAdd (eVar 2) (eC (.str ":"))) eNil)))
  (gEx (eMt kExtend (eVar 1) (eCons (eCallH 1 F_matrix_lines (eCons (e2 kDget (eVar 0) (eVar 2)) eNil)) eNil))))
theorem pointLoop {l : As} (hl : Al l) (p q : Nat) (hpq : p ≠ q) : ∀ (ks : List Str) (x2 : Option U) (acc : List Str) (h : List UO), (∀ k ∈ ks, k ∈ kys l) → h[p]? = some (.dk (emb matU l)) → h[q]? = some (.lst (acc.map .str)) → acc.length + 4 * ks.length ≤ 1000 →
    ∃ x2' t, forL (aName 2) bodyP (ks.map .str) [some (.ref p), some (.ref q), x2] h = .nx [some (.ref p), some (.ref q), x2'] (h.set q (.lst ((acc ++ sec l ks).map .str)) ++ t)
  | [], x2, acc, h, _, _, hq, _ => by
    refine ⟨x2, [], ?_⟩
    have e : h.set q (.lst ((acc ++ sec l []).map .str)) = h := by
      obtain ⟨hl, e⟩ := List.getElem?_eq_some_iff.mp hq
      show h.set q (.lst ((acc ++ []).map .str)) = h
      rw [List.append_nil, ← e]
      exact List.set_getElem_self hl
    rw [e, List.append_nil]
    rfl
  | k :: r, x2, acc, h, hk, hp, hq, hn => by
    rw [List.length_cons] at hn
    obtain ⟨⟨c, hc, ek⟩, R, t, ev⟩ := kys_mem hl (hk k List.mem_cons_self)
    obtain ⟨n1, n3, s1, _, le⟩ := LN_spec t
    have ltq : q < h.length := (List.getElem?_eq_some_iff.mp hq).1
    have ltp : p < h.length := (List.getElem?_eq_some_iff.mp hp).1
    let acc1 := acc ++ [k ++ T [58]]
    let acc2 := acc1 ++ LN R
    let h1 := h.set q (.lst (acc1.map .str))
    have g4 : h1[p]? = some (.dk (emb matU l)) := by rw [List.getElem?_set_ne (by omega)]; exact hp
    have g5 : h1[q]? = some (.lst (acc1.map .str)) := List.getElem?_set_self ltq
    have a1 : ∀ h, kAdd (.str k) (.str (T [58])) h = .ok (.str (k ++ T [58])) h := fun h => by rw [ek, add_T (by simp) h, T_app]
    have k1 : (gEx (eMt kAppend (eVar 1) (eCons (e2 kAdd (eVar 2) (eC (.str ":"))) eNil))) [some (.ref p), some (.ref q), some (.str k)] h = .nx [some (.ref p), some (.ref q), some (.str k)] h1 := by
      have l5 : lstU h (.ref q) = some (acc.map .str) := by
        show (match h[q]? with | some (.lst xs) => some xs | _ => none) = _
        rw [hq]
      have ap := append_str (x := k ++ T [58]) hq (by omega)
      simp only [gEx, eMt, eVar, eC, eCons, eNil, Fn.e2, List.getElem?_cons_zero, List.getElem?_cons_succ, l5, t_colon, a1, ap, Rs.bind, Rs.then]
      rfl
    let h2 := h1 ++ [UO.lst ((LN R).map .str)]
    have cg : eCallH 1 F_matrix_lines (eCons (e2 kDget (eVar 0) (eVar 2)) eNil) [some (.ref p), some (.ref q), some (.str k)] h1 = .ok (.ref h1.length) h2 := callH_eq (as := [matU R]) (by simp only [eCons, eNil, eVar, Fn.e2, List.getElem?_cons_zero, List.getElem?_cons_succ, dget_emb g4 ev, Rs.bind]) rfl (le h1)
    have q5 : h2[q]? = some (.lst (acc1.map .str)) := by
      rw [List.getElem?_append_left (by simp [h1]; omega)]; exact g5
    have q4 : h2[p]? = some (.dk (emb matU l)) := by
      rw [List.getElem?_append_left (by simp [h1]; omega)]; exact g4
    have q6 : lstH h2 (.ref h1.length) = some ((LN R).map .str) := by
      show (match h2[h1.length]? with | some (.lst xs) => some xs | _ => none) = _
      have : h2[h1.length]? = some (.lst ((LN R).map .str)) := by simp [h2]
      rw [this]
    have k2 : (gEx (eMt kExtend (eVar 1) (eCons (eCallH 1 F_matrix_lines (eCons (e2 kDget (eVar 0) (eVar 2)) eNil)) eNil))) [some (.ref p), some (.ref q), some (.str k)] h1 = .nx [some (.ref p), some (.ref q), some (.str k)] (h2.set q (.lst (acc2.map .str))) := by
      have l5 : lstU h1 (.ref q) = some (acc1.map .str) := by
        show (match h1[q]? with | some (.lst xs) => some xs | _ => none) = _
        rw [g5]
      have ex := extend_str (y := .ref h1.length) q5 q6 (by simp [acc1]; omega)
      show (Rs.bind (eVar 1 _ h1) _).then _ _ = _
      simp only [eMt, eVar, eCons, eNil, List.getElem?_cons_zero, List.getElem?_cons_succ, l5, Rs.bind]
      rw [cg]
      simp only [Rs.bind]
      rw [ex]
      simp only [Rs.then]
      rfl
    have j4 : (h2.set q (.lst (acc2.map .str)))[p]? = some (.dk (emb matU l)) := by rw [List.getElem?_set_ne (by omega)]; exact q4
    have j5 : (h2.set q (.lst (acc2.map .str)))[q]? = some (.lst (acc2.map .str)) := List.getElem?_set_self (by simp [h2, h1]; omega)
    obtain ⟨x2', t', ih⟩ := pointLoop hl p q hpq r (some (.str k)) acc2 (h2.set q (.lst (acc2.map .str))) (fun x hx => hk x (List.mem_cons_of_mem _ hx)) j4 j5 (by simp [acc2, acc1]; omega)
    refine ⟨x2', [UO.lst ((LN R).map .str)] ++ t', ?_⟩
    have st : bodyP [some (.ref p), some (.ref q), some (.str k)] h = .nx [some (.ref p), some (.ref q), some (.str k)] (h2.set q (.lst (acc2.map .str))) := by
      unfold bodyP
      rw [gSeq_nx k1, k2]
    have ee : acc2 ++ sec l r = acc ++ sec l (k :: r) := by
      show acc ++ [k ++ T [58]] ++ LN R ++ sec l r = acc ++ sec l (k :: r)
      unfold sec
      rw [List.flatMap_cons, ev]
      simp
    rw [List.map_cons]
    show (match bodyP [some (.ref p), some (.ref q), some (.str k)] h with | .nx us2 h2 => forL (aName 2) bodyP (r.map .str) us2 h2 | .ct us2 h2 => forL (aName 2) bodyP (r.map .str) us2 h2 | .bk us2 h2 => .nx us2 h2 | q => q) = _
    rw [st]
    dsimp only
    rw [ih, set2, ee]
    have eh : h2.set q (.lst ((acc ++ sec l (k :: r)).map .str)) = h.set q (.lst ((acc ++ sec l (k :: r)).map .str)) ++ [UO.lst ((LN R).map .str)] := by
      show (h1 ++ [UO.lst ((LN R).map .str)]).set q _ = _
      rw [List.set_append_left _ _ (by simp [h1]; omega)]
      rw [set2]
    rw [eh, List.append_assoc]
theorem sort_mem {l : As} {k : Str} (h : k ∈ sortSt (kys l)) : k ∈ kys l := (sortSt_perm _).mem_iff.mp h
theorem sort_len (l : As) : (sortSt (kys l)).length = l.length := by rw [(sortSt_perm _).length_eq, kys_len]
noncomputable def Sec (l : As) : List Str := sec l (sortSt (kys l))
theorem Sec_ok {l : As} (h : Al l) (h10 : l.length ≤ 10) : (Sec l).length ≤ 40 ∧ ∀ x ∈ Sec l, PyData.strOk x = true := by
  have q := sec_ok h (sortSt (kys l)) fun k hk => sort_mem hk
  rw [sort_len] at q
  exact ⟨by unfold Sec; omega, q.2⟩
theorem point_ok {l : As} (hl : Al l) (h10 : l.length ≤ 10) (p : Nat) (h : List UO) (hp : h[p]? = some (.dk (emb matU l))) : ∃ t, F_point_lines [.ref p] h = .ok (.ref h.length) (h ++ [.lst ((Sec l).map .str)] ++ t) := by
  have ltp : p < h.length := (List.getElem?_eq_some_iff.mp hp).1
  have z0 : szOk 0 = true := by decide
  have hp1 : (h ++ [.lst []])[p]? = some (.dk (emb matU l)) := by rw [List.getElem?_append_left ltp]; exact hp
  have hq1 : (h ++ [UO.lst []])[h.length]? = some (.lst (([] : List Str).map .str)) := by simp
  obtain ⟨x2', t, e⟩ := pointLoop hl p h.length (by omega) (sortSt (kys l)) none [] (h ++ [.lst []]) (fun k hk => sort_mem hk) hp1 hq1 (by rw [sort_len]; simp; omega)
  refine ⟨t, ?_⟩
  have es : (h ++ [UO.lst []]).set h.length (.lst (([] ++ sec l (sortSt (kys l))).map .str)) = h ++ [.lst ((Sec l).map .str)] := by
    rw [List.set_append_right _ _ (Nat.le_refl _)]
    simp [Sec]
  rw [es] at e
  have s1 : gSet 1 (eT (eLst eNil)) [some (.ref p), none, none] h = .nx [some (.ref p), some (.ref h.length), none] (h ++ [.lst []]) := by
    simp [gSet, eT, eLst, eNil, z0, Rs.bind, Rs.then]
  have s2 : gFor (eSeq (eCall kSortedDK (eCons (eVar 0) eNil))) (aName 2) bodyP [some (.ref p), some (.ref h.length), none] (h ++ [.lst []]) = .nx [some (.ref p), some (.ref h.length), x2'] (h ++ [.lst ((Sec l).map .str)] ++ t) := by
    rw [← e]
    have so := sorted_emb (f := matU) hl h10 hp1
    have ev : eSeq (eCall kSortedDK (eCons (eVar 0) eNil)) [some (.ref p), some (.ref h.length), none] (h ++ [.lst []]) = .ok (.fix ((sortSt (kys l)).map .str)) (h ++ [.lst []]) := by
      unfold eSeq
      simp only [eCall, eCons, eNil, eVar, List.getElem?_cons_zero, so, Rs.bind]
    unfold gFor
    rw [ev]
    rfl
  show finH (gSeq (gSet 1 (eT (eLst eNil))) (gSeq (gFor (eSeq (eCall kSortedDK (eCons (eVar 0) eNil))) (aName 2) bodyP) (gRet (eVar 1))) [some (.ref p), none, none] h) = _
  rw [gSeq_nx s1, gSeq_nx s2]
  rfl
theorem lcNone {tg : Tgt} {tests : EvB} {elt : Ev} {us : Lo} {h : List UO} : ∀ xs : List U, (∀ x ∈ xs, ∃ us1, tg x us = some us1 ∧ tests us1 h = .ok false h) → lcL tg tests elt us xs h = .ok [] h
  | [], _ => rfl
  | x :: r, e => by
    obtain ⟨us1, e1, e2⟩ := e x List.mem_cons_self
    have ih := lcNone (elt := elt) r fun y hy => e y (List.mem_cons_of_mem _ hy)
    simp only [lcL, e1, e2, ih]
end K83
namespace K83
open PySem Fn L2 PySem.NumText
theorem stp {a b : Sv} {us us1 : Lo} {h h1 : List UO} {r : Rg} (e : a us h = .nx us1 h1) (k : fin (b us1 h1) = r) : fin (gSeq a b us h) = r := by
  rw [gSeq_nx e]; exact k
theorem set_eq {i : Nat} {f : Ev} {us : Lo} {h h1 : List UO} {u : U} (e : f us h = .ok u h1) : gSet i f us h = .nx (us.set i (some u)) h1 := by
  unfold gSet
  rw [e]
  rfl
theorem if_f {c : EvB} {a b : Sv} {us us1 : Lo} {h h1 h2 : List UO} (e : c us h = .ok false h1) (k : b us h1 = .nx us1 h2) : gIf c a b us h = .nx us1 h2 := by
  unfold gIf
  rw [e]
  exact k
theorem not_of {f : Ev} {us : Lo} {h h1 : List UO} (e : f us h = .ok (.bl true) h1) : bNot (bE f) us h = .ok false h1 := by
  unfold bNot bE
  rw [e]
  rfl
theorem or_ff {f g : EvB} {us : Lo} {h h1 h2 : List UO} (e : f us h = .ok false h1) (k : g us h1 = .ok false h2) : bOr f g us h = .ok false h2 := by
  unfold bOr
  rw [e]
  exact k
theorem frL2 {h : List UO} {p : Nat} {L : List Str} {M : List U} (e : h[p]? = some (.lst (L.map .str))) (eM : pureU 8 (.fl M) = true) : mapO (frz 8 h) [.ref p, .fl M] = some [.fl (L.map .str), .fl M] := by
  simp only [mapO, frz_ref (n := 5) e, frz_pure 8 _ h eM]
theorem frL2r {h : List UO} {p q : Nat} {L M : List Str} (e : h[p]? = some (.lst (L.map .str))) (e2 : h[q]? = some (.lst (M.map .str))) : mapO (frz 8 h) [.ref p, .ref q] = some [.fl (L.map .str), .fl (M.map .str)] := by
  simp only [mapO, frz_ref (n := 5) e, frz_ref (n := 5) e2]
theorem rg_eq (n : Nat) : rgU 0 (n : Int) = (List.range n).map fun i : Nat => .int (i : Int) := by
  unfold rgU
  rw [show ((n : Int) - 0).toNat = n by omega]
  refine List.map_congr_left fun i _ => ?_
  congr 1
  omega
theorem strs_eq (h : List UO) (L : List Str) (hs : ∀ x ∈ L, PyData.strOk x = true) : eqD h (.fl (L.map .str)) (.fl (L.map .str)) = some true := by
  have m : mapO (toD 19 h) (L.map U.str) = some (L.map PyData.str) := by
    induction L with
    | nil => rfl
    | cons x r ih =>
      have i := ih fun y hy => hs y (List.mem_cons_of_mem _ hy)
      have d : toD 19 h (.str x) = some (.str x) := by show (if PyData.strOk x = true then _ else _) = _; rw [if_pos (hs x List.mem_cons_self)]
      rw [List.map_cons, List.map_cons]
      simp only [mapO, d, i]
  show (match toD 20 h (.fl (L.map .str)), toD 20 h (.fl (L.map .str)) with | some d, some e => some (PyData.eqv d e) | _, _ => none) = _
  have d : toD 20 h (.fl (L.map .str)) = some (.list (L.map PyData.str)) := by
    show (match mapO (toD 19 h) (L.map U.str) with | some ds => some (PyData.list ds) | none => none) = _
    rw [m]
  rw [d]
  show some (PyData.eqv (.list (L.map PyData.str)) (.list (L.map PyData.str))) = _
  have q : ∀ L : List Str, PyData.eqvAll (L.map PyData.str) (L.map PyData.str) = true := by
    intro L
    induction L with
    | nil => simp [PyData.eqvAll]
    | cons x r ih => simp [PyData.eqvAll, PyData.eqv, ih]
  unfold PyData.eqv
  rw [q]
theorem law_true : ∀ ns : List Int, ns.length ≤ 63 → (∀ z ∈ ns, Nat.log2 z.natAbs ≤ 1048576) → F_law [.scr ns] = .ok (.bl true) := by
  intro ns hn hb
  have d3 : ∀ x, cDivA x 3 = true := fun x => by
    have : cDivA 0 3 = true := by decide +kernel
    exact this
  have d5 : ∀ x, cDivA x 5 = true := fun x => by
    have : cDivA 0 5 = true := by decide +kernel
    exact this
  have d312 : ∀ x, cDivA x 312 = true := fun x => by
    have : cDivA 0 312 = true := by decide +kernel
    exact this
  have m2 : ∀ x, cMod x 2 = true := fun x => rfl
  have m3 : ∀ x, cMod x 3 = true := fun x => rfl
  have m5 : ∀ x, cMod x 5 = true := fun x => rfl
  obtain ⟨v0, e0, b0⟩ := number_ok ns hb hn 0 (by omega)
  obtain ⟨v1, e1, b1⟩ := number_ok ns hb hn 1 (by omega)
  have e0 : F__law_number [.scr ns, .int 0] = .ok (.int v0) := e0
  have e1 : F__law_number [.scr ns, .int 1] = .ok (.int v1) := e1
  obtain ⟨n0, en0, hn0⟩ := fmod_lt v0 3 (by decide)
  have en0 : v0.fmod 3 = (n0 : Int) := en0
  obtain ⟨R0, t0, et0⟩ := table_ok ns hb hn 2 (by omega) (1 + n0) (by omega) (by omega)
  have a0 : (1 : Int) + (n0 : Int) = ((1 + n0 : Nat) : Int) := by omega
  obtain ⟨w0, ew0⟩ : ∃ w, (v0.fdiv 3).fmod 2 = w := ⟨_, rfl⟩
  have ef0 := filled_ok (w0 == 0) t0
  obtain ⟨l1, l3, ls, el, em⟩ := LN_spec t0
  obtain ⟨L0, eL⟩ : ∃ L, LN R0 = L := ⟨_, rfl⟩
  rw [eL] at l1 l3 ls el em
  have sl0 := same_lines_ok L0 (by omega) ls
  obtain ⟨cs, c6, cl, ec⟩ := menu_ok v1
  obtain ⟨w1, ew1⟩ : ∃ w, v1.fdiv 312 = w := ⟨_, rfl⟩
  have bw : big w1 := by
    have q0 : v1.fdiv 312 = v1 / 312 := Int.fdiv_eq_ediv_of_nonneg v1 (by decide)
    rw [← ew1, q0]
    refine ⟨by have := b1.1; omega, ?_⟩
    have : (v1 / 312).natAbs ≤ v1.natAbs := by have := b1.1; omega
    exact Nat.le_trans (log_le this) b1.2
  obtain ⟨k, ek, hk⟩ := fmod_lt w1 5 (by decide)
  have ek : w1.fmod 5 = (k : Int) := ek
  have rk := rg_ok (n := k) (by omega)
  let o0 : UO := .lst ((L0.map U.str).set 0 (.str (Str.ofString "")) ++ [.str (Str.ofString "x")])
  let o1 : UO := .lst (L0.map U.str)
  obtain ⟨v', cs', l, x9, x12, hl, hll, eD⟩ := drawLoop ns hb hn (some (tabU R0)) (some (matU R0)) (some (.fl (L0.map .str))) (some (.ref 0)) o0 o1 (List.range k) none none w1 cs [] (fun i hi => by have := List.mem_range.mp hi; omega) bw cl (by rw [List.length_range]; omega) (by omega) (fun x hx => by cases hx) (by rw [List.length_range]; simp; omega)
  have hl10 : l.length ≤ 10 := by rw [List.length_range] at hll; simp at hll; omega
  have Sk := Sec_ok hl hl10
  have slS := same_lines_ok (Sec l) (by omega) Sk.2
  show fin (B_law (startU 13 [.scr ns]) []) = _
  unfold B_law
  refine stp (us1 := [some (.scr ns), some (.int v0), none, none, none, none, none, none, none, none, none, none, none]) (set_eq (callG_eq (as := [.scr ns, .int 0]) rfl rfl e0)) ?_
  refine stp (us1 := [some (.scr ns), some (.int v0), some (tabU R0), none, none, none, none, none, none, none, none, none, none]) (h1 := []) (set_eq (callG_eq (h1 := []) (as := [.scr ns, .int 2, .int ((1 + n0 : Nat) : Int)]) (by simp only [eCons, eNil, eVar, eC, eCall, Fn.e2, kInt, kI, m3, en0, kAdd_int, a0, List.getElem?_cons_zero, List.getElem?_cons_succ, Rs.bind]) rfl et0)) ?_
  refine stp (us1 := [some (.scr ns), some (.int v0), some (tabU R0), some (matU R0), none, none, none, none, none, none, none, none, none]) (h1 := []) (set_eq (callG_eq (h1 := []) (as := [tabU R0, .bl (w0 == 0)]) (by simp only [eCons, eNil, eVar, eC, eCall, Fn.e2, kInt, kI, m2, d3, ew0, kEq, eqD_int, List.getElem?_cons_zero, List.getElem?_cons_succ, Rs.bind]) (by rw [List.all_cons, pure_tab 6 R0]; rfl) ef0)) ?_
  refine stp (us1 := [some (.scr ns), some (.int v0), some (tabU R0), some (matU R0), some (.fl (L0.map .str)), none, none, none, none, none, none, none, none]) (set_eq (callG_eq (as := [tabU R0]) rfl (by rw [List.all_cons, pure_tab 6 R0]; rfl) el)) ?_
  refine stp (us1 := [some (.scr ns), some (.int v0), some (tabU R0), some (matU R0), some (.fl (L0.map .str)), some (.ref 0), none, none, none, none, none, none, none]) (h1 := [.lst (L0.map .str)]) (set_eq (callH_eq (as := [matU R0]) rfl rfl (em []))) ?_
  refine stp (if_f (not_of (callR_eq (as := [.ref 0, .fl (L0.map .str)]) rfl (frL2 rfl (pure_strs 6 L0)) rfl sl0 rfl)) rfl) ?_
  refine stp (us1 := [some (.scr ns), some (.int v0), some (tabU R0), some (matU R0), some (.fl (L0.map .str)), some (.ref 0), none, none, none, none, none, none, none]) (h1 := [.lst ((L0.map U.str).set 0 (.str (Str.ofString "")))]) ?_ ?_
  · have ix : ixN L0.length 0 = some 0 := by
      unfold ixN
      rw [if_pos (by omega), if_pos (by omega)]
      rfl
    simp [gPut, eC, eVar, kPut, ix, Rs.then]
  refine stp (us1 := [some (.scr ns), some (.int v0), some (tabU R0), some (matU R0), some (.fl (L0.map .str)), some (.ref 0), none, none, none, none, none, none, none]) (h1 := [o0]) ?_ ?_
  · have z : szOk (L0.length + 1) = true := szOk_of (by omega)
    simp [gEx, eMt, eC, eVar, eCons, eNil, kAppend, lstU, z, o0, Rs.bind, Rs.then]
  refine stp (h1 := [o0, o1]) (if_f (or_ff (h1 := [o0, o1]) (not_of (callR_eq (as := [.ref 1, .fl (L0.map .str)]) ?_ (frL2 rfl (pure_strs 6 L0)) rfl sl0 rfl)) (not_of (callG_eq (as := [matU R0, tabU R0]) rfl (by rw [List.all_cons, List.all_cons, pure_tab 6 R0, pure_matn 5 R0]; rfl) (same_entries_ok t0)))) rfl) ?_
  · have cg : eCallH 1 F_matrix_lines (eCons (eVar 3) eNil) [some (.scr ns), some (.int v0), some (tabU R0), some (matU R0), some (.fl (L0.map .str)), some (.ref 0), none, none, none, none, none, none, none] [o0] = .ok (.ref 1) [o0, o1] := callH_eq (as := [matU R0]) rfl rfl (em [o0])
    show Rs.bind _ _ = _
    rw [cg]
    rfl
  refine stp (us1 := [some (.scr ns), some (.int v1), some (tabU R0), some (matU R0), some (.fl (L0.map .str)), some (.ref 0), none, none, none, none, none, none, none]) (set_eq (callG_eq (as := [.scr ns, .int 1]) rfl rfl e1)) ?_
  refine stp (us1 := [some (.scr ns), some (.int v1), some (tabU R0), some (matU R0), some (.fl (L0.map .str)), some (.ref 0), some (.ref 2), none, none, none, none, none, none]) (h1 := [o0, o1, .lst (lets cs)]) (set_eq ?_) ?_
  · have cg : eCallG 1 F__law_menu (eCons (eVar 1) eNil) [some (.scr ns), some (.int v1), some (tabU R0), some (matU R0), some (.fl (L0.map .str)), some (.ref 0), none, none, none, none, none, none, none] [o0, o1] = .ok (.str (T cs)) [o0, o1] := callG_eq (as := [.int v1]) rfl rfl ec
    have z : szOk (T cs).length = true := szOk_of (by rw [T_len]; omega)
    simp only [eT, eListS, eCons, eNil, cg, z, Rs.bind]
    rfl
  refine stp (us1 := [some (.scr ns), some (.int w1), some (tabU R0), some (matU R0), some (.fl (L0.map .str)), some (.ref 0), some (.ref 2), none, none, none, none, none, none]) (h1 := [o0, o1, .lst (lets cs)]) (set_eq (by simp only [Fn.e2, eVar, eC, kI, d312, ew1, List.getElem?_cons_zero, List.getElem?_cons_succ, Rs.bind])) ?_
  refine stp (us1 := [some (.scr ns), some (.int w1), some (tabU R0), some (matU R0), some (.fl (L0.map .str)), some (.ref 0), some (.ref 2), some (.ref 3), none, none, none, none, none]) (h1 := [o0, o1, .lst (lets cs), .dk []]) rfl ?_
  refine stp (us1 := [some (.scr ns), some (.int w1), some (tabU R0), some (matU R0), some (.fl (L0.map .str)), some (.ref 0), some (.ref 2), some (.ref 3), some (.ref 4), none, none, none, none]) (h1 := [o0, o1, .lst (lets cs), .dk [], .dk []]) rfl ?_
  refine stp (us1 := [some (.scr ns), some (.int v'), some (tabU R0), some (matU R0), some (.fl (L0.map .str)), some (.ref 0), some (.ref 2), some (.ref 3), some (.ref 4), x9, none, none, x12]) (h1 := [o0, o1, .lst (lets cs'), .dk (emb matU l), .dk (emb tabU l)]) ?_ ?_
  · refine Eq.trans ?_ eD
    unfold gFor
    simp only [ir1, Fn.e2, eVar, eC, eCall, eCons, eNil, kInt, kI, m5, ek, rk, rg_eq, List.getElem?_cons_zero, List.getElem?_cons_succ, Rs.bind, Rs.then]
    rfl
  have h3 : ([o0, o1, .lst (lets cs'), .dk (emb matU l), .dk (emb tabU l)] : List UO)[3]? = some (.dk (emb matU l)) := rfl
  have LK := list_emb (f := matU) hl h3 (fa := eCons (eVar 7) eNil) (us := [some (.scr ns), some (.int v'), some (tabU R0), some (matU R0), some (.fl (L0.map .str)), some (.ref 0), some (.ref 2), some (.ref 3), some (.ref 4), x9, none, none, x12]) rfl
  refine stp (us1 := [some (.scr ns), some (.int v'), some (tabU R0), some (matU R0), some (.fl (L0.map .str)), some (.ref 0), some (.ref 2), some (.ref 3), some (.ref 4), x9, some (.fl ((kys l).map .str)), none, x12]) (h1 := [o0, o1, .lst (lets cs'), .dk (emb matU l), .dk (emb tabU l)]) (set_eq (by unfold eF; rw [LK]; rfl)) ?_
  refine stp (us1 := [some (.scr ns), some (.int v'), some (tabU R0), some (matU R0), some (.fl (L0.map .str)), some (.ref 0), some (.ref 2), some (.ref 3), some (.ref 4), x9, some (.fl ((kys l).map .str)), some (.ref 5), x12]) (h1 := [o0, o1, .lst (lets cs'), .dk (emb matU l), .dk (emb tabU l), .lst []]) rfl ?_
  obtain ⟨y12, eS⟩ := secLoop hl (some (.scr ns)) (some (.int v')) (some (tabU R0)) (some (matU R0)) (some (.fl (L0.map .str))) (some (.ref 0)) (some (.ref 2)) (some (.ref 3)) x9 (some (.fl ((kys l).map .str))) (sortSt (kys l)) x12 [] [o0, o1, .lst (lets cs'), .dk (emb matU l), .dk (emb tabU l), .lst []] (fun k hk => sort_mem hk) rfl rfl (by rw [sort_len]; simp; omega)
  refine stp (us1 := [some (.scr ns), some (.int v'), some (tabU R0), some (matU R0), some (.fl (L0.map .str)), some (.ref 0), some (.ref 2), some (.ref 3), some (.ref 4), x9, some (.fl ((kys l).map .str)), some (.ref 5), y12]) (h1 := [o0, o1, .lst (lets cs'), .dk (emb matU l), .dk (emb tabU l), .lst ((Sec l).map .str)]) ?_ ?_
  · refine Eq.trans ?_ eS
    have so := sorted_emb (f := tabU) hl hl10 (hp := [o0, o1, .lst (lets cs'), .dk (emb matU l), .dk (emb tabU l), .lst []]) (p := 4) rfl
    have ev : eSeq (eCall kSortedDK (eCons (eVar 8) eNil)) [some (.scr ns), some (.int v'), some (tabU R0), some (matU R0), some (.fl (L0.map .str)), some (.ref 0), some (.ref 2), some (.ref 3), some (.ref 4), x9, some (.fl ((kys l).map .str)), some (.ref 5), x12] [o0, o1, .lst (lets cs'), .dk (emb matU l), .dk (emb tabU l), .lst []] = .ok (.fix ((sortSt (kys l)).map .str)) [o0, o1, .lst (lets cs'), .dk (emb matU l), .dk (emb tabU l), .lst []] := by
      unfold eSeq
      simp only [eCall, eCons, eNil, eVar, List.getElem?_cons_zero, List.getElem?_cons_succ, so, Rs.bind]
    unfold gFor
    rw [ev]
    rfl
  let H1 : List UO := [o0, o1, .lst (lets cs'), .dk (emb matU l), .dk (emb tabU l), .lst ((Sec l).map .str)]
  obtain ⟨t1, eP⟩ := point_ok hl hl10 3 H1 rfl
  refine stp (us1 := [some (.scr ns), some (.int v'), some (tabU R0), some (matU R0), some (.fl (L0.map .str)), some (.ref 6), some (.ref 2), some (.ref 3), some (.ref 4), x9, some (.fl ((kys l).map .str)), some (.ref 5), y12]) (h1 := H1 ++ [UO.lst ((Sec l).map U.str)] ++ t1) (set_eq (callH_eq (as := [.ref 3]) rfl rfl eP)) ?_
  refine stp (if_f (not_of (callR_eq (as := [.ref 6, .ref 5]) rfl (frL2r (L := Sec l) (M := Sec l) rfl rfl) rfl slS rfl)) rfl) ?_
  let H2 : List UO := H1 ++ [UO.lst ((Sec l).map U.str ++ [U.str (Str.ofString "x")])] ++ t1
  refine stp (us1 := [some (.scr ns), some (.int v'), some (tabU R0), some (matU R0), some (.fl (L0.map .str)), some (.ref 6), some (.ref 2), some (.ref 3), some (.ref 4), x9, some (.fl ((kys l).map .str)), some (.ref 5), y12]) (h1 := H2) ?_ ?_
  · have z : szOk ((Sec l).length + 1) = true := szOk_of (by omega)
    simp [gEx, eMt, eC, eVar, eCons, eNil, kAppend, lstU, z, H1, H2, Rs.bind, Rs.then]
  let H3 : List UO := H1 ++ [UO.lst (((Sec l).map U.str ++ [U.str (Str.ofString "x")]).set 0 (U.str (Str.ofString "")))] ++ t1
  refine stp (us1 := [some (.scr ns), some (.int v'), some (tabU R0), some (matU R0), some (.fl (L0.map .str)), some (.ref 6), some (.ref 2), some (.ref 3), some (.ref 4), x9, some (.fl ((kys l).map .str)), some (.ref 5), y12]) (h1 := H3) ?_ ?_
  · have ix : ixN ((Sec l).length + 1) 0 = some 0 := by
      unfold ixN
      rw [if_pos (by omega), if_pos (by omega)]
      rfl
    simp [gPut, eC, eVar, kPut, ix, H1, H2, H3, Rs.then]
  obtain ⟨t2, eP2⟩ := point_ok hl hl10 3 H3 rfl
  let H4 : List UO := H3 ++ [UO.lst ((Sec l).map U.str)] ++ t2
  have g3 : H4[3]? = some (.dk (emb matU l)) := rfl
  have g4 : H4[4]? = some (.dk (emb tabU l)) := rfl
  have g5 : H4[5]? = some (.lst ((Sec l).map .str)) := rfl
  have gH : H4[H3.length]? = some (.lst ((Sec l).map .str)) := by
    show (H3 ++ [UO.lst ((Sec l).map .str)] ++ t2)[H3.length]? = _
    rw [List.append_assoc, List.getElem?_append_right (Nat.le_refl _)]
    simp
  let us : Lo := [some (.scr ns), some (.int v'), some (tabU R0), some (matU R0), some (.fl (L0.map .str)), some (.ref 6), some (.ref 2), some (.ref 3), some (.ref 4), x9, some (.fl ((kys l).map .str)), some (.ref 5), y12]
  have ks : ∀ x ∈ kys l, PyData.strOk x = true := fun x hx => by
    obtain ⟨⟨c, hc, e⟩, _⟩ := kys_mem hl hx
    rw [e]; exact ok_T (by simpa using hc)
  have LK2 := list_emb (f := matU) hl g3 (fa := eCons (eVar 7) eNil) (us := us) rfl
  refine stp (us1 := us) (h1 := H4) (if_f (or_ff (h1 := H4) (not_of (callR_eq (as := [.ref H3.length, .ref 5]) ?_ (frL2r (L := Sec l) (M := Sec l) gH g5) rfl slS rfl)) (h2 := H4) ?_) rfl) ?_
  · have cg : eCallH 1 F_point_lines (eCons (eVar 7) eNil) us H3 = .ok (.ref H3.length) H4 := callH_eq (as := [.ref 3]) rfl rfl eP2
    show Rs.bind _ _ = _
    rw [cg]
    rfl
  · have q := strs_eq H4 (kys l) ks
    have ev : eF (eListDK (eCons (eVar 7) eNil)) us H4 = .ok (.fl ((kys l).map .str)) H4 := by unfold eF; rw [LK2]; rfl
    show Rs.bind (Rs.bind _ _) _ = _
    rw [ev]
    show Rs.bind (kNe (.fl ((kys l).map .str)) (.fl ((kys l).map .str)) H4) _ = _
    unfold kNe
    rw [q]
    rfl
  have lc : eLc (eSeq (eVar 10)) (aName 12) (bNot (bE (eCallG 2 F__law_same_entries (eCons (e2 kDget (eVar 7) (eVar 12)) (eCons (e2 kDget (eVar 8) (eVar 12)) eNil))))) (eVar 12) [12] us H4 = .ok [] H4 := by
    have q := lcNone (tg := aName 12) (tests := (bNot (bE (eCallG 2 F__law_same_entries (eCons (e2 kDget (eVar 7) (eVar 12)) (eCons (e2 kDget (eVar 8) (eVar 12)) eNil)))))) (elt := eVar 12) (us := wipeU us [12]) (h := H4) ((kys l).map .str) (fun x hx => by
      obtain ⟨k, hk, rfl⟩ := List.mem_map.mp hx
      obtain ⟨_, R, t, ev⟩ := kys_mem hl hk
      refine ⟨_, rfl, not_of (callG_eq (as := [matU R, tabU R]) ?_ (by rw [List.all_cons, List.all_cons, pure_tab 6 R, pure_matn 5 R]; rfl) (same_entries_ok t))⟩
      have a1 : kDget (.ref 3) (.str k) H4 = .ok (matU R) H4 := dget_emb g3 ev
      have a2 : kDget (.ref 4) (.str k) H4 = .ok (tabU R) H4 := dget_emb g4 ev
      show Rs.bind (kDget (.ref 3) (.str k) H4) _ = _
      rw [a1]
      show Rs.bind (Rs.bind (kDget (.ref 4) (.str k) H4) _) _ = _
      rw [a2]
      rfl)
    show (match lcL _ _ _ (wipeU us [12]) ((kys l).map .str) H4 with | .ok ys h2 => (match Nat.blt ys.length 16777216 with | true => Rs.ok ys h2 | false => .no) | _ => .no) = _
    rw [q]
    rfl
  show fin (Rs.then (Rs.bind (Rs.bind (Rs.bind (Rs.bind (eLc _ _ _ _ _ us H4) _) _) _) _) _ _) = _
  rw [lc]
  rfl
end K83
open PySem PySem.W PyProof.Rows in
set_option maxHeartbeats 0 in
theorem PySem.Challenge.cw_tablelaws_k83_lines_of_matrices_holds : PySem.Challenge.rw_tablelaws_k83_lines_of_matrices.Holds := by
  w_on; o_law; k_head; (case hw => w_witness2)
  k_fill
  refine L2.walk_ofB (l := PySem.Challenge.rw_tablelaws_k83_lines_of_matrices) (n := 63) (k := 6) (x := "script") (CX := fun w => L2.CX PySem.Challenge.rw_tablelaws_k83_lines_of_matrices.prog w) (sp := fun w => Fn.topSpB _) rfl (by decide) rfl ⟨rfl, by decide, by decide⟩ (fun w h Y => PySem.W.kIn_of Y) ?F (fun w H a ns hl hb hO hS => ⟨a, ns, rfl, hO, hS, hl, hb, fun _ => rfl⟩) (fun w H s e s' hh => Fn.top_never hh)
  case F =>
    intro w mg fa h KX G hmg
    refine' K83.all_mk K83.law_true KX G hmg ?n_Ratio ?n_Matrix ?a_Ratio_init ?fn_Ratio_init ?l_Ratio_init ?c_Ratio_init ?k_Ratio_init ?dt_Ratio_init ?a_Ratio_str ?fn_Ratio_str ?l_Ratio_str ?c_Ratio_str ?k_Ratio_str ?a_check_size ?l_check_size ?c_check_size ?k_check_size ?a_Matrix_getitem ?fn_Matrix_getitem ?l_Matrix_getitem ?c_Matrix_getitem ?k_Matrix_getitem ?a_Matrix_iter ?fn_Matrix_iter ?l_Matrix_iter ?c_Matrix_iter ?k_Matrix_iter ?a__law_cell ?l__law_cell ?c__law_cell ?k__law_cell ?a__law_menu ?l__law_menu ?c__law_menu ?k__law_menu ?a__law_written ?l__law_written ?c__law_written ?k__law_written ?a__law_fraction ?l__law_fraction ?c__law_fraction ?k__law_fraction ?a__law_same_lines ?l__law_same_lines ?c__law_same_lines ?k__law_same_lines ?a_matrix_lines ?l_matrix_lines ?c_matrix_lines ?k_matrix_lines ?a_Matrix_init ?fn_Matrix_init ?l_Matrix_init ?c_Matrix_init ?k_Matrix_init ?a__law_number ?l__law_number ?c__law_number ?k__law_number ?a__law_lines ?l__law_lines ?c__law_lines ?k__law_lines ?a__law_same_entries ?l__law_same_entries ?c__law_same_entries ?k__law_same_entries ?a_point_lines ?l_point_lines ?c_point_lines ?k_point_lines ?a__law_table ?l__law_table ?c__law_table ?k__law_table ?a__law_filled ?l__law_filled ?c__law_filled ?k__law_filled ?a_law ?l_law ?c_law ?k_law ?pg_Ratio ?hd_Ratio ?po_Ratio ?sa_Ratio ?sf_Ratio ?mm_Ratio ?mkp_Ratio ?nf_Ratio ?ed_Ratio ?ee_Ratio ?ef_Ratio ?eg_Ratio ?na_Ratio_den ?na_Ratio_num ?pg_Matrix ?hd_Matrix ?po_Matrix ?sa_Matrix ?sf_Matrix ?mm_Matrix ?mkp_Matrix ?nf_Matrix ?ed_Matrix ?ee_Matrix ?ef_Matrix ?eg_Matrix ?na_Matrix_rows ?na_Matrix_size ?n_TableError ?kp_TableError ?bp_TableError ?tp_TableError ?ip_TableError ?n_ZeroDivisor ?kp_ZeroDivisor ?bp_ZeroDivisor ?tp_ZeroDivisor ?ip_ZeroDivisor ?e_ZeroDivisor ?n_InvalidNumber ?kp_InvalidNumber ?bp_InvalidNumber ?tp_InvalidNumber ?ip_InvalidNumber ?n_WrongSize ?kp_WrongSize ?bp_WrongSize ?tp_WrongSize ?ip_WrongSize ?e_WrongSize ?fi_Matrix_getitem ?sbt_Ratio_int ?sbt_Matrix_int ?n_gcd ?n_SIZES ?l_SIZES ?z_abs ?z_int ?z_isinstance ?z_iter ?z_len ?z_list ?z_max ?z_range ?z_sorted ?z_str ?z_tuple ?z_zip
    (case n_Ratio => k_is)
    (case n_Matrix => k_is)
    (case a_Ratio_init => k_is)
    (case fn_Ratio_init => k_is)
    (case l_Ratio_init => k_is)
    (case c_Ratio_init => k_is)
    (case k_Ratio_init => k_is)
    (case dt_Ratio_init => k_is)
    (case a_Ratio_str => k_is)
    (case fn_Ratio_str => k_is)
    (case l_Ratio_str => k_is)
    (case c_Ratio_str => k_is)
    (case k_Ratio_str => k_is)
    (case a_check_size => k_is)
    (case l_check_size => k_is)
    (case c_check_size => k_is)
    (case k_check_size => k_is)
    (case a_Matrix_getitem => k_is)
    (case fn_Matrix_getitem => k_is)
    (case l_Matrix_getitem => k_is)
    (case c_Matrix_getitem => k_is)
    (case k_Matrix_getitem => k_is)
    (case a_Matrix_iter => k_is)
    (case fn_Matrix_iter => k_is)
    (case l_Matrix_iter => k_is)
    (case c_Matrix_iter => k_is)
    (case k_Matrix_iter => k_is)
    (case a__law_cell => k_is)
    (case l__law_cell => k_is)
    (case c__law_cell => k_is)
    (case k__law_cell => k_is)
    (case a__law_menu => k_is)
    (case l__law_menu => k_is)
    (case c__law_menu => k_is)
    (case k__law_menu => k_is)
    (case a__law_written => k_is)
    (case l__law_written => k_is)
    (case c__law_written => k_is)
    (case k__law_written => k_is)
    (case a__law_fraction => k_is)
    (case l__law_fraction => k_is)
    (case c__law_fraction => k_is)
    (case k__law_fraction => k_is)
    (case a__law_same_lines => k_is)
    (case l__law_same_lines => k_is)
    (case c__law_same_lines => k_is)
    (case k__law_same_lines => k_is)
    (case a_matrix_lines => k_is)
    (case l_matrix_lines => k_is)
    (case c_matrix_lines => k_is)
    (case k_matrix_lines => k_is)
    (case a_Matrix_init => k_is)
    (case fn_Matrix_init => k_is)
    (case l_Matrix_init => k_is)
    (case c_Matrix_init => k_is)
    (case k_Matrix_init => k_is)
    (case a__law_number => k_is)
    (case l__law_number => k_is)
    (case c__law_number => k_is)
    (case k__law_number => k_is)
    (case a__law_lines => k_is)
    (case l__law_lines => k_is)
    (case c__law_lines => k_is)
    (case k__law_lines => k_is)
    (case a__law_same_entries => k_is)
    (case l__law_same_entries => k_is)
    (case c__law_same_entries => k_is)
    (case k__law_same_entries => k_is)
    (case a_point_lines => k_is)
    (case l_point_lines => k_is)
    (case c_point_lines => k_is)
    (case k_point_lines => k_is)
    (case a__law_table => k_is)
    (case l__law_table => k_is)
    (case c__law_table => k_is)
    (case k__law_table => k_is)
    (case a__law_filled => k_is)
    (case l__law_filled => k_is)
    (case c__law_filled => k_is)
    (case k__law_filled => k_is)
    (case a_law => k_is)
    (case l_law => k_is)
    (case c_law => k_is)
    (case k_law => k_is)
    (case pg_Ratio => k_is)
    (case hd_Ratio => k_is)
    (case po_Ratio => k_is)
    (case sa_Ratio => k_is)
    (case sf_Ratio => k_is)
    (case mm_Ratio => k_is)
    (case mkp_Ratio => k_is)
    (case nf_Ratio => k_is)
    (case ed_Ratio => k_is)
    (case ee_Ratio => k_is)
    (case ef_Ratio => k_is)
    (case eg_Ratio => k_is)
    (case na_Ratio_den => k_is)
    (case na_Ratio_num => k_is)
    (case pg_Matrix => k_is)
    (case hd_Matrix => k_is)
    (case po_Matrix => k_is)
    (case sa_Matrix => k_is)
    (case sf_Matrix => k_is)
    (case mm_Matrix => k_is)
    (case mkp_Matrix => k_is)
    (case nf_Matrix => k_is)
    (case ed_Matrix => k_is)
    (case ee_Matrix => k_is)
    (case ef_Matrix => k_is)
    (case eg_Matrix => k_is)
    (case na_Matrix_rows => k_is)
    (case na_Matrix_size => k_is)
    (case n_TableError => k_is)
    (case kp_TableError => k_is)
    (case bp_TableError => k_is)
    (case tp_TableError => k_is)
    (case ip_TableError => k_is)
    (case n_ZeroDivisor => k_is)
    (case kp_ZeroDivisor => k_is)
    (case bp_ZeroDivisor => k_is)
    (case tp_ZeroDivisor => k_is)
    (case ip_ZeroDivisor => k_is)
    (case e_ZeroDivisor => k_exc)
    (case n_InvalidNumber => k_is)
    (case kp_InvalidNumber => k_is)
    (case bp_InvalidNumber => k_is)
    (case tp_InvalidNumber => k_is)
    (case ip_InvalidNumber => k_is)
    (case n_WrongSize => k_is)
    (case kp_WrongSize => k_is)
    (case bp_WrongSize => k_is)
    (case tp_WrongSize => k_is)
    (case ip_WrongSize => k_is)
    (case e_WrongSize => k_exc)
    (case fi_Matrix_getitem => k_is)
    (case sbt_Ratio_int => k_is)
    (case sbt_Matrix_int => k_is)
    (case n_gcd => k_is)
    (case n_SIZES => k_is)
    (case l_SIZES => k_is)
    (case z_abs => k_is)
    (case z_int => k_is)
    (case z_isinstance => k_is)
    (case z_iter => k_is)
    (case z_len => k_is)
    (case z_list => k_is)
    (case z_max => k_is)
    (case z_range => k_is)
    (case z_sorted => k_is)
    (case z_str => k_is)
    (case z_tuple => k_is)
    (case z_zip => k_is)
