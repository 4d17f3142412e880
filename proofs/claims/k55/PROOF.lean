import PyProof.Rows.All
import Wide.All
import OpenK.AllK
import Wide.FinOn
import HandS.ForMost
import HandS.Defaults
import HandS.WideBits
import HandS.IsInst
import HandS.ExcIs
import HandS.ExcValue
import HandS.HeadHook1
import HandS.ExcCtx
import HandS.Hot
import HandS.HotCalls
import KE.KSortTupAny
import HandS.Text
import HandS.FStr
import HandS.TupAny
import HandS.Deep
import HandS.SortInts
import HandS.SortRule
import PyProof.Rows.MinMaxN
import PyProof.Rows.MinMaxGenD
import PyProof.MaxThree
import KE.GoesMore
import HandS.Rev
import HandS.Zip
import HandS.ExcOwn
import PyProof.ExcBaseAll.ValueError
import HandS.TryOnly
import HandS.Conv
import HandS.SetFor
import HandS.More
import HandS.TupSets
import HandS.RevTup
import KE.DataFind
import HandS.Strs
import HandS.Dict
import HandS.WordsDict
import HandS.DictTup
import HandS.Words
import HandS.Head0
import HandS.Head1
import HandS.Head2
import HandS.HeadEnd
import HandS.HeadHook2
import PySem.Challenge.RW_wavewires_k55_settled_alike
set_option Elab.async false
set_option linter.all false
set_option maxRecDepth 100000
set_option maxHeartbeats 0
set_option autoImplicit false
namespace L2.Pu
open PySem PySem.Spec PyProof.Rows
/-! ### results -/
inductive R (α : Type) where
  | ok (a : α)
  | ex (c : Str) (as : List PyData)
  | bad
def R.bind {α β : Type} : R α → (α → R β) → R β
  | .ok a, k => k a
  | .ex c as, _ => .ex c as
  | .bad, _ => .bad
/-- in a comprehension nothing may be raised -/
def R.calm {α : Type} : R α → R α
  | .ok a => .ok a
  | _ => .bad
def guardR {α : Type} (c : Bool) (r : R α) : R α := if c = true then r else .bad
abbrev XW := Str → List PyData → Prop
def RP {α : Type} (W : XW) (r : R α) (P : α → Prop) : Prop := match r with
  | .ok a => P a
  | .ex c as => W c as
  | .bad => False
theorem RP.bind {α β : Type} {W : XW} {r : R α} {k : α → R β} {P : β → Prop} (h : RP W (r.bind k) P) : RP W r fun a => RP W (k a) P := by
  cases r <;> exact h
theorem RP.mono {α : Type} {W : XW} {r : R α} {P Q : α → Prop} (h : RP W r P) (f : ∀ a, P a → Q a) : RP W r Q := by
  cases r with
  | ok a => exact f a h
  | ex c as => exact h
  | bad => exact h
theorem RP.guard {α : Type} {W : XW} {c : Bool} {r : R α} {P : α → Prop} (h : RP W (guardR c r) P) : c = true ∧ RP W r P := by
  unfold guardR at h
  by_cases hc : c = true
  · rw [if_pos hc] at h; exact ⟨hc, h⟩
  · rw [if_neg hc] at h; exact h.elim
theorem RP.calm {α : Type} {W W' : XW} {r : R α} {P : α → Prop} (h : RP W r.calm P) : RP W' r P := by
  cases r with
  | ok a => exact h
  | ex c as => exact False.elim h
  | bad => exact h
/-! ### what stands in the heap for a value -/
/-- a list of the written part -/
def KL (K : PySem.W.Frag) (a : Addr) (xs : List V) : Prop := ∃ (o : Obj) (its : Array Value) (n : Nat), K.lookup a = some o ∧ o.cls = .type "list" ∧ o.dict = none ∧ o.data = .seq its n ∧ its.size ≤ sizeLine ∧ Vals xs its.toList
/-- a list that is tracked, not in F; or one of the written part -/
def LsR (K : PySem.W.Frag) (F : Addr → Prop) (H : Hp) (a : Addr) (xs : List V) : Prop := (¬ F a ∧ Rd H a (.lst xs)) ∨ KL K a xs
def excs : List Str := ["WaveError", "HasLooks", "UnlikeWires", "TooGreat", "NoStep", "StillHidden", "OddTurn", "Barred", "NoPaper", "BadRow"]
/-- whether the class d is under c -/
def subX (d c : Str) : Option Bool := if excs.contains d && (excs.contains c || c == "ValueError") then some (d == c || c == "WaveError" || c == "ValueError") else none
/-- what the written part must say of a class that is raised -/
def excFacts (K : PySem.W.Frag) (C : Addr) : Bool := He.eqO (PySem.W.findIn K (.ref C) "__getattribute__") (some (some (.builtin "BaseException.__getattribute__"))) && He.eqO (PySem.W.findIn K (.ref C) "__getattr__") (some none) &&
  decide (PySem.W.subIn K (.ref C) (.type "BaseException") = some true) && PySem.W.hasDictIn K C && He.eqO (PySem.W.findIn K (.ref C) "__class__") (some (some (.builtin "object.__class__"))) &&
  He.eqO (PySem.W.specialIn K (.builtin "object.__class__") "__get__") (some (some (.builtin "getset_descriptor.__get__"))) && decide (PySem.W.takesIn K (.builtin "object.__class__") = some true) && decide (PySem.W.mroIn K C (.type "object") = some true)
/-- a class that is named -/
def clOk (K : PySem.W.Frag) (d : Str) : Bool := (He.Fa.glo d).ok K && excs.contains d
/-- a class that is raised -/
def exOk (K : PySem.W.Frag) (c : Str) : Bool := clOk K c && (He.Fa.exc c).ok K && excFacts K (He.ga K c) && decide (PySem.W.kitOne K (.ref (He.ga K c)) (.type "ValueError") = some true) &&
  excs.all fun d => !(He.Fa.glo d).ok K || (decide (PySem.W.kitOne K (.ref (He.ga K c)) (.ref (He.ga K d)) = subX c d) && decide (PySem.W.exmOne K (.ref (He.ga K c)) (.ref (He.ga K d)) = subX c d))
theorem excFacts_ok {K : PySem.W.Frag} {C : Addr} (h : excFacts K C = true) : ExcC K C := by
  unfold excFacts at h
  simp only [Bool.and_eq_true] at h
  obtain ⟨⟨⟨⟨⟨⟨⟨h1, h2⟩, h3⟩, h4⟩, h5⟩, h6⟩, h7⟩, h8⟩ := h
  exact ⟨He.eqO_ok h1, He.eqO_ok h2, of_decide_eq_true h3, h4, He.eqO_ok h5, He.eqO_ok h6, of_decide_eq_true h7, of_decide_eq_true h8⟩
structure ExF (K : PySem.W.Frag) (c : Str) : Prop where
  fa : (He.Fa.exc c).ok K = true
  ec : ExcC K (He.ga K c)
  ve : PySem.W.kitOne K (.ref (He.ga K c)) (.type "ValueError") = some true
  al : ∀ d, clOk K d = true → PySem.W.kitOne K (.ref (He.ga K c)) (.ref (He.ga K d)) = subX c d ∧ PySem.W.exmOne K (.ref (He.ga K c)) (.ref (He.ga K d)) = subX c d
theorem exOk_ok {K : PySem.W.Frag} {c : Str} (h : exOk K c = true) : ExF K c := by
  unfold exOk at h
  simp only [Bool.and_eq_true] at h
  obtain ⟨⟨⟨⟨_, h1⟩, h2⟩, h3⟩, h4⟩ := h
  refine ⟨h1, excFacts_ok h2, of_decide_eq_true h3, fun d hd => ?_⟩
  unfold clOk at hd
  rw [Bool.and_eq_true] at hd
  have q := List.all_eq_true.mp h4 d (by simpa using hd.2)
  rw [hd.1, Bool.not_true, Bool.false_or, Bool.and_eq_true] at q
  exact ⟨of_decide_eq_true q.1, of_decide_eq_true q.2⟩
/-- an exception that was caught, of the class cls -/
def ExH (cls : Value) (a : Addr) : HO := .ext fun h => ∃ (oe : Obj) (vs : Array Value), h.get? a = some oe ∧ L2N.Zn cls none oe ∧ oe.data = .fields vs
def ExAt (K : PySem.W.Frag) (H : Hp) (c : Str) (as : List PyData) (a : Addr) : Prop := as = [] ∧ H a = some (ExH (.ref (He.ga K c)) a) ∧ exOk K c = true
def exV (c : Str) (as : List PyData) : PyData := .dict [(.str c, .tuple as)]
/-- a value that leans on no object -/
def scV : PyData → Option V
  | .none => some .non
  | .bool b => some (.bl b)
  | .int i => some (.int i)
  | .str x => some (.str x)
  | _ => none
/-- a dict whose keys are ints and whose values lean on no object -/
def unDs : List (PyData × PyData) → Option (List (Int × PyData))
  | [] => some []
  | (.int k, v) :: r => if (scV v).isSome = true then (unDs r).map fun l => (k, v) :: l else none
  | _ :: _ => none
/-- it may bear a mark ahead: a dict that is lent -/
def unD : List (PyData × PyData) → Option (List (Int × PyData))
  | (.none, _) :: r => unDs r
  | r => unDs r
def isM : List (PyData × PyData) → Bool
  | (.none, _) :: _ => true
  | _ => false
def dL (l : List (Int × PyData)) : List (PyData × PyData) := l.map fun kv => (.int kv.1, kv.2)
def reD (ks : List (PyData × PyData)) (l : List (Int × PyData)) : List (PyData × PyData) := if isM ks = true then (.none, .none) :: dL l else dL l
theorem unDs_dL : ∀ {l : List (Int × PyData)}, l.all (fun kv => (scV kv.2).isSome) = true → unDs (dL l) = some l
  | [], _ => rfl
  | (k, v) :: l, h => by
    rw [List.all_cons, Bool.and_eq_true] at h
    show (if (scV v).isSome = true then (unDs (dL l)).map fun l => (k, v) :: l else none) = _
    rw [if_pos h.1, unDs_dL h.2]; rfl
theorem unD_dL {l : List (Int × PyData)} (h : l.all (fun kv => (scV kv.2).isSome) = true) : unD (dL l) = some l := by
  cases l with
  | nil => rfl
  | cons q l => exact unDs_dL h
theorem isM_dL (l : List (Int × PyData)) : isM (dL l) = false := by cases l <;> rfl
theorem unD_reD {ks : List (PyData × PyData)} {l : List (Int × PyData)} (h : l.all (fun kv => (scV kv.2).isSome) = true) : unD (reD ks l) = some l := by
  unfold reD
  by_cases hm : isM ks = true
  · rw [if_pos hm]; exact unDs_dL h
  · rw [if_neg hm]; exact unD_dL h
theorem isM_reD {ks : List (PyData × PyData)} {l : List (Int × PyData)} : isM (reD ks l) = isM ks := by
  unfold reD
  by_cases hm : isM ks = true
  · rw [if_pos hm, hm]; rfl
  · rw [if_neg hm, isM_dL]
    cases e : isM ks with
    | true => exact absurd e hm
    | false => rfl
theorem unDs_sc : ∀ {ks : List (PyData × PyData)} {l : List (Int × PyData)}, unDs ks = some l → l.all (fun kv => (scV kv.2).isSome) = true
  | [], l, h => by cases h; rfl
  | (.int k, v) :: r, l, h => by
    unfold unDs at h
    by_cases c : (scV v).isSome = true
    · rw [if_pos c] at h
      cases e : unDs r with
      | none => rw [e] at h; cases h
      | some l' =>
        rw [e] at h
        cases h
        rw [List.all_cons, Bool.and_eq_true]
        exact ⟨c, unDs_sc e⟩
    · rw [if_neg c] at h; cases h
  | (.none, _) :: _, _, h => by cases h
  | (.bool _, _) :: _, _, h => by cases h
  | (.str _, _) :: _, _, h => by cases h
  | (.list _, _) :: _, _, h => by cases h
  | (.tuple _, _) :: _, _, h => by cases h
  | (.dict _, _) :: _, _, h => by cases h
theorem unD_sc {ks : List (PyData × PyData)} {l : List (Int × PyData)} (h : unD ks = some l) : l.all (fun kv => (scV kv.2).isSome) = true := by
  unfold unD at h
  split at h <;> exact unDs_sc h
def dkv (kv : Int × PyData) : Key × V := (.inl kv.1, (scV kv.2).getD .non)
/-- a dict whose keys are rows of ints: it bears the mark True -/
def intsK : List PyData → Option (List Int)
  | [] => some []
  | .int i :: r => (intsK r).map (i :: ·)
  | _ :: _ => none
def unTs : List (PyData × PyData) → Option (List (List Int × PyData))
  | [] => some []
  | (.tuple ks, v) :: r => if (scV v).isSome = true then (intsK ks).bind fun k => (unTs r).map fun l => (k, v) :: l else none
  | _ :: _ => none
def unT : List (PyData × PyData) → Option (List (List Int × PyData))
  | (.bool true, _) :: r => unTs r
  | _ => none
def tLs (l : List (List Int × PyData)) : List (PyData × PyData) := l.map fun kv => (.tuple (kv.1.map .int), kv.2)
def tL (l : List (List Int × PyData)) : List (PyData × PyData) := (.bool true, .none) :: tLs l
theorem intsK_map : ∀ k : List Int, intsK (k.map .int) = some k
  | [] => rfl
  | i :: k => by
    show (intsK (k.map .int)).map _ = _
    rw [intsK_map k]; rfl
theorem intsK_of : ∀ {ps : List PyData} {k : List Int}, intsK ps = some k → ps = k.map .int
  | [], _, h => by cases h; rfl
  | .int i :: r, k, h => by
    have h : (intsK r).map (i :: ·) = some k := h
    cases e : intsK r with
    | none => rw [e] at h; cases h
    | some k' => rw [e] at h; cases h; rw [intsK_of e]; rfl
  | .none :: _, _, h => by cases h
  | .bool _ :: _, _, h => by cases h
  | .str _ :: _, _, h => by cases h
  | .list _ :: _, _, h => by cases h
  | .tuple _ :: _, _, h => by cases h
  | .dict _ :: _, _, h => by cases h
theorem unTs_tLs : ∀ {l : List (List Int × PyData)}, l.all (fun kv => (scV kv.2).isSome) = true → unTs (tLs l) = some l
  | [], _ => rfl
  | (k, v) :: l, h => by
    rw [List.all_cons, Bool.and_eq_true] at h
    show (if (scV v).isSome = true then (intsK (k.map .int)).bind fun k => (unTs (tLs l)).map fun l => (k, v) :: l else none) = _
    rw [if_pos h.1, intsK_map, unTs_tLs h.2]; rfl
theorem unT_tL {l : List (List Int × PyData)} (h : l.all (fun kv => (scV kv.2).isSome) = true) : unT (tL l) = some l := unTs_tLs h
theorem unTs_sc : ∀ {ks : List (PyData × PyData)} {l : List (List Int × PyData)}, unTs ks = some l → l.all (fun kv => (scV kv.2).isSome) = true
  | [], l, h => by cases h; rfl
  | (.tuple k, v) :: r, l, h => by
    unfold unTs at h
    by_cases c : (scV v).isSome = true
    · rw [if_pos c] at h
      cases e2 : intsK k with
      | none => rw [e2] at h; cases h
      | some k' =>
        cases e : unTs r with
        | none => rw [e, e2] at h; cases h
        | some l' =>
          rw [e, e2] at h
          cases h
          rw [List.all_cons, Bool.and_eq_true]
          exact ⟨c, unTs_sc e⟩
    · rw [if_neg c] at h; cases h
  | (.none, _) :: _, _, h => by cases h
  | (.bool _, _) :: _, _, h => by cases h
  | (.int _, _) :: _, _, h => by cases h
  | (.str _, _) :: _, _, h => by cases h
  | (.list _, _) :: _, _, h => by cases h
  | (.dict _, _) :: _, _, h => by cases h
theorem unT_sc {ks : List (PyData × PyData)} {l : List (List Int × PyData)} (h : unT ks = some l) : l.all (fun kv => (scV kv.2).isSome) = true := by
  unfold unT at h
  split at h
  · exact unTs_sc h
  · cases h
theorem unT_D {ks : List (PyData × PyData)} {l : List (Int × PyData)} (h : unD ks = some l) : unT ks = none := by
  unfold unT
  split
  · cases h
  · rfl
def dtv (kv : List Int × PyData) : List Key × V := (kv.1.map .inl, (scV kv.2).getD .non)
def dkO (ks : List (PyData × PyData)) : Option HO := match unT ks with
  | some l => some (.dT (l.map dtv))
  | none => (unD ks).map fun kvs => .dK (kvs.map dkv)
/-- what may be changed -/
def MutO (o : HO) : Prop := (∃ xs, o = .lst xs) ∨ (∃ kvs, o = .dK kvs) ∨ ∃ kvs, o = .dT kvs
theorem dkO_mut {ks : List (PyData × PyData)} {o : HO} (h : dkO ks = some o) : MutO o := by
  unfold dkO at h
  cases e2 : unT ks with
  | some l => rw [e2] at h; cases h; exact .inr (.inr ⟨_, rfl⟩)
  | none =>
    rw [e2] at h
    cases e : unD ks with
    | none => rw [e] at h; cases h
    | some l => rw [e] at h; cases h; exact .inr (.inl ⟨_, rfl⟩)
/-- the written part holds no row of one to three ints, the first above nought -/
def noKey1 (q : Addr × Obj) : Bool := match q.2.cls, q.2.data with
  | .type t, .seq its _ => !(t == "tuple") || (match its.toList with
    | .int i _ :: r => !(decide (1 ≤ i) && decide (r.length ≤ 2))
    | _ => true)
  | _, _ => true
/-- a tuple: tracked, or of the written part -/
def TqT (K : PySem.W.Frag) (H : Hp) (a : Addr) (xs : List V) : Prop := H a = some (.tup xs) ∨ ∃ (o : Obj) (its : Array Value) (n : Nat), K.lookup a = some o ∧ o.cls = .type "tuple" ∧ o.data = .seq its n ∧ its.size ≤ sizeLine ∧ Vals xs its.toList
theorem TqT.sq {K : PySem.W.Frag} {H : Hp} {a : Addr} {xs : List V} (h : TqT K H a xs) : SqT K H a xs := h.elim (fun h => .inl (.inl h)) .inr
theorem TqT.of {K : PySem.W.Frag} {H : Hp} {a : Addr} {xs : List V} (h : H a = some (.tup xs)) : TqT K H a xs := .inl h
instance {K : PySem.W.Frag} {H : Hp} {a : Addr} {xs : List V} : Coe (TqT K H a xs) (SqT K H a xs) := ⟨TqT.sq⟩
mutual
def Rep (K : PySem.W.Frag) (F : Addr → Prop) (H : Hp) : PyData → V → Prop
  | .none, v => v = .non
  | .bool b, v => v = .bl b
  | .int i, v => v = .int i
  | .str x, v => v = .str x
  | .list ps, v => ∃ a vs, v = .ref a ∧ LsR K F H a vs ∧ Reps K F H ps vs
  | .tuple ps, v => ∃ a vs, v = .ref a ∧ TqT K H a vs ∧ Reps K F H ps vs
  | .dict ks, v => ∃ a, v = .ref a ∧ ((∃ c as, ks = [(.str c, .tuple as)] ∧ ExAt K H c as a) ∨ ∃ o, dkO ks = some o ∧ H a = some o ∧ ¬ F a)
def Reps (K : PySem.W.Frag) (F : Addr → Prop) (H : Hp) : List PyData → List V → Prop
  | [], [] => True
  | p :: ps, v :: vs => Rep K F H p v ∧ Reps K F H ps vs
  | [], _ :: _ => False
  | _ :: _, [] => False
end
def FT (F : Addr → Prop) (H : Hp) : Prop := ∀ a, F a → ∃ o, H a = some o ∧ MutO o
/-- all but what is in F is as it was -/
def Ext (F : Addr → Prop) (H H' : Hp) : Prop := ∀ b o, H b = some o → ¬ F b → H' b = some o
theorem Same.ext {F : Addr → Prop} {H H' : Hp} (h : Same H H') : Ext F H H' := fun b o e _ => h b o e
theorem FT.same {F : Addr → Prop} {H H' : Hp} (h : FT F H) (s : Same H H') : FT F H' := fun a f => let ⟨xs, e, m⟩ := h a f; ⟨xs, s _ _ e, m⟩
section
variable {K : PySem.W.Frag} {F F' : Addr → Prop} {H H' : Hp} {a : Addr} {xs : List V}
theorem LsR.sql (h : LsR K F H a xs) : SqL K H a xs := h.elim (fun h => .inl h.2) .inr
theorem LsR.ext (h : LsR K F H a xs) (e : Ext F H H') : LsR K F H' a xs := by
  rcases h with ⟨nf, h | ⟨o, h⟩⟩ | h
  · exact .inl ⟨nf, .inl (e _ _ h nf)⟩
  · exact .inl ⟨nf, .inr ⟨o, e _ _ h nf⟩⟩
  · exact .inr h
theorem LsR.sub (h : LsR K F H a xs) (s : ∀ a, F' a → F a) : LsR K F' H a xs := h.elim (fun h => .inl ⟨fun z => h.1 (s a z), h.2⟩) .inr
theorem LsR.grow (h : LsR K F H a xs) (e : Same H H') : LsR K F H' a xs := h.ext (Same.ext e)
theorem LsR.avoid {Z : Addr → Prop} (h : LsR K F H a xs) (hz : ∀ a, Z a → H a = none) : LsR K (fun b => F b ∨ Z b) H a xs := by
  rcases h with ⟨nf, h⟩ | h
  · refine .inl ⟨fun z => ?_, h⟩
    rcases z with z | z
    · exact nf z
    · have e := hz a z
      rcases h with q | ⟨o, q⟩
      · rw [e] at q; cases q
      · rw [e] at q; cases q
  · exact .inr h
theorem LsR.own (h : H a = some (.lst xs)) (nf : ¬ F a) : LsR K F H a xs := .inl ⟨nf, .inl h⟩
def NT (F : Addr → Prop) (H : Hp) : Prop := ∀ a o, F a → H a = some o → MutO o
theorem FT.nt {F : Addr → Prop} {H : Hp} (h : FT F H) : NT F H := fun a o f e => let ⟨xs, q, m⟩ := h a f; by rw [e] at q; cases q; exact m
theorem sqT_extN (h : SqT K H a xs) (nt : NT F H) (e : Ext F H H') : SqT K H' a xs := by
  rcases h with (h | ⟨o, h⟩) | h
  · refine .inl (.inl (e _ _ h fun f => ?_))
    rcases nt a _ f h with ⟨ys, q⟩ | ⟨ys, q⟩ | ⟨ys, q⟩ <;> cases q
  · refine .inl (.inr ⟨o, e _ _ h fun f => ?_⟩)
    rcases nt a _ f h with ⟨ys, q⟩ | ⟨ys, q⟩ | ⟨ys, q⟩ <;> cases q
  · exact .inr h
theorem sqT_ext (h : SqT K H a xs) (ft : FT F H) (e : Ext F H H') : SqT K H' a xs := sqT_extN h ft.nt e
theorem tqT_extN (h : TqT K H a xs) (nt : NT F H) (e : Ext F H H') : TqT K H' a xs := by
  rcases h with h | h
  · refine .inl (e _ _ h fun f => ?_)
    rcases nt a _ f h with ⟨ys, q⟩ | ⟨ys, q⟩ | ⟨ys, q⟩ <;> cases q
  · exact .inr h
mutual
theorem Rep.extN (nt : NT F H) (e : Ext F H H') : ∀ (p : PyData) (v : V), Rep K F H p v → Rep K F H' p v
  | .none, _, h => h
  | .bool _, _, h => h
  | .int _, _, h => h
  | .str _, _, h => h
  | .list ps, v, h => by
    unfold Rep at h ⊢
    obtain ⟨a, vs, ev, ls, r⟩ := h
    exact ⟨a, vs, ev, ls.ext e, Reps.extN nt e ps vs r⟩
  | .tuple ps, v, h => by
    unfold Rep at h ⊢
    obtain ⟨a, vs, ev, sq, r⟩ := h
    exact ⟨a, vs, ev, tqT_extN sq nt e, Reps.extN nt e ps vs r⟩
  | .dict ks, v, h => by
    unfold Rep at h ⊢
    obtain ⟨a, ev, h⟩ := h
    refine ⟨a, ev, ?_⟩
    rcases h with ⟨c, as, ek, e0, ea⟩ | ⟨o, ok, ha, nf⟩
    · exact .inl ⟨c, as, ek, e0, e _ _ ea.1 (fun f => by
        rcases nt a _ f ea.1 with ⟨xs, z⟩ | ⟨xs, z⟩ | ⟨xs, z⟩ <;> cases z), ea.2⟩
    · exact .inr ⟨o, ok, e _ _ ha nf, nf⟩
theorem Reps.extN (nt : NT F H) (e : Ext F H H') : ∀ (ps : List PyData) (vs : List V), Reps K F H ps vs → Reps K F H' ps vs
  | [], [], _ => by unfold Reps; trivial
  | p :: ps, v :: vs, h => by
    unfold Reps at h ⊢
    exact ⟨Rep.extN nt e p v h.1, Reps.extN nt e ps vs h.2⟩
  | [], _ :: _, h => by unfold Reps at h; exact h.elim
  | _ :: _, [], h => by unfold Reps at h; exact h.elim
end
theorem Rep.ext (ft : FT F H) (e : Ext F H H') (p : PyData) (v : V) (h : Rep K F H p v) : Rep K F H' p v := Rep.extN ft.nt e p v h
theorem Reps.ext (ft : FT F H) (e : Ext F H H') (ps : List PyData) (vs : List V) (h : Reps K F H ps vs) : Reps K F H' ps vs := Reps.extN ft.nt e ps vs h
mutual
theorem Rep.sub (s : ∀ a, F' a → F a) : ∀ (p : PyData) (v : V), Rep K F H p v → Rep K F' H p v
  | .none, _, h => h
  | .bool _, _, h => h
  | .int _, _, h => h
  | .str _, _, h => h
  | .list ps, v, h => by
    unfold Rep at h ⊢
    obtain ⟨a, vs, ev, ls, r⟩ := h
    exact ⟨a, vs, ev, ls.sub s, Reps.sub s ps vs r⟩
  | .tuple ps, v, h => by
    unfold Rep at h ⊢
    obtain ⟨a, vs, ev, sq, r⟩ := h
    exact ⟨a, vs, ev, sq, Reps.sub s ps vs r⟩
  | .dict ks, v, h => by
    unfold Rep at h ⊢
    obtain ⟨a, ev, h⟩ := h
    exact ⟨a, ev, h.imp id fun ⟨o, ok, ha, nf⟩ => ⟨o, ok, ha, fun z => nf (s a z)⟩⟩
theorem Reps.sub (s : ∀ a, F' a → F a) : ∀ (ps : List PyData) (vs : List V), Reps K F H ps vs → Reps K F' H ps vs
  | [], [], _ => by unfold Reps; trivial
  | p :: ps, v :: vs, h => by
    unfold Reps at h ⊢
    exact ⟨Rep.sub s p v h.1, Reps.sub s ps vs h.2⟩
  | [], _ :: _, h => by unfold Reps at h; exact h.elim
  | _ :: _, [], h => by unfold Reps at h; exact h.elim
end
mutual
theorem Rep.grow (e : Same H H') : ∀ (p : PyData) (v : V), Rep K F H p v → Rep K F H' p v
  | .none, _, h => h
  | .bool _, _, h => h
  | .int _, _, h => h
  | .str _, _, h => h
  | .list ps, v, h => by
    unfold Rep at h ⊢
    obtain ⟨a, vs, ev, ls, r⟩ := h
    exact ⟨a, vs, ev, ls.grow e, Reps.grow e ps vs r⟩
  | .tuple ps, v, h => by
    unfold Rep at h ⊢
    obtain ⟨a, vs, ev, sq, r⟩ := h
    refine ⟨a, vs, ev, ?_, Reps.grow e ps vs r⟩
    rcases sq with q | q
    · exact .inl (e _ _ q)
    · exact .inr q
  | .dict ks, v, h => by
    unfold Rep at h ⊢
    obtain ⟨a, ev, h⟩ := h
    exact ⟨a, ev, h.imp (fun ⟨c, as, ek, e0, ea⟩ => ⟨c, as, ek, e0, e _ _ ea.1, ea.2⟩) fun ⟨o, ok, ha, nf⟩ => ⟨o, ok, e _ _ ha, nf⟩⟩
theorem Reps.grow (e : Same H H') : ∀ (ps : List PyData) (vs : List V), Reps K F H ps vs → Reps K F H' ps vs
  | [], [], _ => by unfold Reps; trivial
  | p :: ps, v :: vs, h => by
    unfold Reps at h ⊢
    exact ⟨Rep.grow e p v h.1, Reps.grow e ps vs h.2⟩
  | [], _ :: _, h => by unfold Reps at h; exact h.elim
  | _ :: _, [], h => by unfold Reps at h; exact h.elim
end
theorem Rep.same (ft : FT F H) (s : Same H H') {p : PyData} {v : V} (h : Rep K F H p v) : Rep K F H' p v := Rep.ext ft (Same.ext s) p v h
theorem Reps.same (ft : FT F H) (s : Same H H') {p : List PyData} {v : List V} (h : Reps K F H p v) : Reps K F H' p v := Reps.ext ft (Same.ext s) p v h
theorem Reps.length : ∀ {ps : List PyData} {vs : List V}, Reps K F H ps vs → vs.length = ps.length
  | [], [], _ => rfl
  | p :: ps, v :: vs, h => by
    unfold Reps at h
    show vs.length + 1 = ps.length + 1
    rw [Reps.length h.2]
  | [], _ :: _, h => by unfold Reps at h; exact h.elim
  | _ :: _, [], h => by unfold Reps at h; exact h.elim
theorem Reps.get : ∀ {ps : List PyData} {vs : List V} {i : Nat} {p : PyData}, Reps K F H ps vs → ps[i]? = some p → ∃ v, vs[i]? = some v ∧ Rep K F H p v
  | [], _, i, p, _, e => by simp at e
  | q :: ps, v :: vs, 0, p, h, e => by
    unfold Reps at h
    have e' : q = p := by simpa using e
    subst e'
    exact ⟨v, rfl, h.1⟩
  | q :: ps, v :: vs, i + 1, p, h, e => by
    unfold Reps at h
    exact Reps.get (i := i) h.2 (by simpa using e)
  | _ :: _, [], _, _, h, _ => by unfold Reps at h; exact h.elim
theorem Reps.append : ∀ {ps qs : List PyData} {vs ws : List V}, Reps K F H ps vs → Reps K F H qs ws → Reps K F H (ps ++ qs) (vs ++ ws)
  | [], _, [], _, _, h => h
  | p :: ps, _, v :: vs, _, h, g => by
    unfold Reps at h
    show Reps K F H (p :: (ps ++ _)) (v :: (vs ++ _))
    unfold Reps
    exact ⟨h.1, Reps.append h.2 g⟩
  | [], _, _ :: _, _, h, _ => by unfold Reps at h; exact h.elim
  | _ :: _, _, [], _, h, _ => by unfold Reps at h; exact h.elim
theorem Reps.set : ∀ {ps : List PyData} {vs : List V} {p : PyData} {v : V} (i : Nat), Reps K F H ps vs → Rep K F H p v → Reps K F H (ps.set i p) (vs.set i v)
  | [], [], _, _, _, h, _ => h
  | q :: ps, w :: vs, p, v, 0, h, g => by
    unfold Reps at h
    show Reps K F H (p :: ps) (v :: vs)
    unfold Reps
    exact ⟨g, h.2⟩
  | q :: ps, w :: vs, p, v, i + 1, h, g => by
    unfold Reps at h
    show Reps K F H (q :: ps.set i p) (w :: vs.set i v)
    unfold Reps
    exact ⟨h.1, Reps.set i h.2 g⟩
  | [], _ :: _, _, _, _, h, _ => by unfold Reps at h; exact h.elim
  | _ :: _, [], _, _, _, h, _ => by unfold Reps at h; exact h.elim
theorem Reps.take : ∀ {ps : List PyData} {vs : List V} (n : Nat), Reps K F H ps vs → Reps K F H (ps.take n) (vs.take n)
  | [], [], n, h => by simp only [List.take_nil]; exact h
  | p :: ps, v :: vs, 0, h => by unfold Reps; trivial
  | p :: ps, v :: vs, n + 1, h => by
    unfold Reps at h
    show Reps K F H (p :: ps.take n) (v :: vs.take n)
    unfold Reps
    exact ⟨h.1, Reps.take n h.2⟩
  | [], _ :: _, _, h => by unfold Reps at h; exact h.elim
  | _ :: _, [], _, h => by unfold Reps at h; exact h.elim
theorem Reps.drop : ∀ {ps : List PyData} {vs : List V} (n : Nat), Reps K F H ps vs → Reps K F H (ps.drop n) (vs.drop n)
  | [], [], n, h => by simp only [List.drop_nil]; exact h
  | p :: ps, v :: vs, 0, h => h
  | p :: ps, v :: vs, n + 1, h => by
    unfold Reps at h
    exact Reps.drop n h.2
  | [], _ :: _, _, h => by unfold Reps at h; exact h.elim
  | _ :: _, [], _, h => by unfold Reps at h; exact h.elim
mutual
theorem Rep.dp : ∀ (p : PyData) (v : V), p.canLay0 = true → Rep K F H p v → Dp K H v p
  | .none, v, _, h => by unfold Rep at h; subst h; exact .non
  | .bool _, v, _, h => by unfold Rep at h; subst h; exact .bl _
  | .int _, v, _, h => by unfold Rep at h; subst h; exact .int _
  | .str _, v, _, h => by unfold Rep at h; subst h; exact .str _
  | .list ps, v, c, h => by
    unfold Rep at h
    obtain ⟨a, vs, rfl, ls, r⟩ := h
    exact .lst ls.sql (Reps.dp ps vs (by unfold PyData.canLay0 at c; exact c) r)
  | .tuple ps, v, c, h => by
    unfold Rep at h
    obtain ⟨a, vs, rfl, sq, r⟩ := h
    exact .tup sq (Reps.dp ps vs (by unfold PyData.canLay0 at c; exact c) r)
  | .dict _, _, c, h => by unfold PyData.canLay0 at c; cases c
theorem Reps.dp : ∀ (ps : List PyData) (vs : List V), PyData.canLayAll0 ps = true → Reps K F H ps vs → DpAll K H vs ps
  | [], [], _, _ => .nil
  | p :: ps, v :: vs, c, h => by
    unfold Reps at h
    unfold PyData.canLayAll0 at c
    rw [Bool.and_eq_true] at c
    exact .cons (Rep.dp p v c.1 h.1) (Reps.dp ps vs c.2 h.2)
  | [], _ :: _, _, h => by unfold Reps at h; exact h.elim
  | _ :: _, [], _, h => by unfold Reps at h; exact h.elim
end
end
/-! ### the names' values -/
abbrev Sl := Option (Bool × PyData)
abbrev PEnv := List Sl
/-- the list that slot i owns -/
def OwnX (L : List Nat) (σ : St) (ρ : PEnv) (a : Addr) : Prop := ∃ (i : Nat) (p : PyData), i ∉ L ∧ ρ[i]? = some (some (true, p)) ∧ σ[i]? = some (some (.ref a))
/-- what may not be leaned on: F, and the lists that are owned, but those of L -/
def FX (F : Addr → Prop) (L : List Nat) (σ : St) (ρ : PEnv) (a : Addr) : Prop := F a ∨ OwnX L σ ρ a
theorem FX.mono {F : Addr → Prop} {L L' : List Nat} {σ : St} {ρ : PEnv} (h : ∀ i, i ∈ L → i ∈ L') : ∀ a, FX F L' σ ρ a → FX F L σ ρ a := fun a x => by
  rcases x with x | ⟨i, p, hi, e1, e2⟩
  · exact .inl x
  · exact .inr ⟨i, p, fun z => hi (h i z), e1, e2⟩
/-- the written part, and the heap that stays -/
structure KB where
  K : PySem.W.Frag
  B : Hp
  P : Addr → Prop
instance : Coe KB PySem.W.Frag := ⟨KB.K⟩
/-- what a name of its own holds: a list, or a dict -/
def OwnO (K : KB) (G : Addr → Prop) (H : Hp) (p : PyData) (a : Addr) : Prop := match p with
  | .list ps => ∃ vs, H a = some (.lst vs) ∧ Reps K G H ps vs
  | .dict ks => ∃ o, dkO ks = some o ∧ H a = some o ∧ (isM ks = true → K.P a)
  | _ => False
theorem OwnO.mut {K : KB} {G : Addr → Prop} {H : Hp} {p : PyData} {a : Addr} (h : OwnO K G H p a) : ∃ o, H a = some o ∧ MutO o := by
  cases p with
  | list ps => obtain ⟨vs, e, _⟩ := h; exact ⟨_, e, .inl ⟨_, rfl⟩⟩
  | dict ks => obtain ⟨o, e, h, _⟩ := h; exact ⟨o, h, dkO_mut e⟩
  | _ => exact h.elim
theorem OwnO.move {K : KB} {G G' : Addr → Prop} {H H' : Hp} {p : PyData} {a : Addr} (h : OwnO K G H p a) (ha : ∀ o, H a = some o → H' a = some o) (hr : ∀ ps vs, Reps K G H ps vs → Reps K G' H' ps vs) : OwnO K G' H' p a := by
  cases p with
  | list ps => obtain ⟨vs, e, r⟩ := h; exact ⟨vs, ha _ e, hr _ _ r⟩
  | dict ks => obtain ⟨o, e, h, m⟩ := h; exact ⟨o, e, ha _ h, m⟩
  | _ => exact h.elim
theorem OwnO.sub {K : KB} {G G' : Addr → Prop} {H : Hp} {p : PyData} {a : Addr} (h : OwnO K G H p a) (s : ∀ b, G' b → G b) : OwnO K G' H p a := h.move (fun _ e => e) fun _ _ r => Reps.sub s _ _ r
/-- as a value that is read -/
theorem OwnO.rep {K : KB} {G G' : Addr → Prop} {H : Hp} {p : PyData} {a : Addr} (h : OwnO K G H p a) (nf : ¬ G' a) (s : ∀ b, G' b → G b) : Rep K G' H p (.ref a) := by
  cases p with
  | list ps =>
    obtain ⟨vs, e, r⟩ := h
    unfold Rep
    exact ⟨a, vs, rfl, .own e nf, Reps.sub s _ _ r⟩
  | dict ks =>
    obtain ⟨o, e, h, _⟩ := h
    unfold Rep
    exact ⟨a, rfl, .inr ⟨o, e, h, nf⟩⟩
  | _ => exact h.elim
structure EnvRep (K : KB) (F : Addr → Prop) (H0 H : Hp) (σ : St) (ρ : PEnv) : Prop where
  len : σ.length = ρ.length
  val : ∀ (i : Nat) (p : PyData), ρ[i]? = some (some (false, p)) → ∃ v, σ[i]? = some (some v) ∧ Rep K (FX F [] σ ρ) H p v
  ow : ∀ (i : Nat) (p : PyData), ρ[i]? = some (some (true, p)) → ∃ a, σ[i]? = some (some (.ref a)) ∧ ¬ F a ∧ H0 a = none ∧ OwnO K (FX F [] σ ρ) H p a
  inj : ∀ (i j : Nat) (p q : PyData) (a : Addr), ρ[i]? = some (some (true, p)) → ρ[j]? = some (some (true, q)) → σ[i]? = some (some (.ref a)) → σ[j]? = some (some (.ref a)) → i = j
  same : Same H0 H
  ft : FT F H
  bs : Same K.B H0
section
variable {K : KB} {F F' : Addr → Prop} {H0 H H' : Hp} {σ : St} {ρ : PEnv} {L : List Nat}
/-- the names that own lists -/
theorem EnvRep.own (E : EnvRep K F H0 H σ ρ) (i : Nat) (xs : List PyData) (h : ρ[i]? = some (some (true, .list xs))) : ∃ ps a vs, PyData.list xs = .list ps ∧ σ[i]? = some (some (.ref a)) ∧ H a = some (.lst vs) ∧ ¬ F a ∧ H0 a = none ∧ Reps K (FX F [] σ ρ) H ps vs := by
  obtain ⟨a, e1, e2, e3, vs, e4, r⟩ := E.ow i _ h
  exact ⟨xs, a, vs, rfl, e1, e4, e2, e3, r⟩
theorem EnvRep.ftX (E : EnvRep K F H0 H σ ρ) (L : List Nat) : FT (FX F L σ ρ) H := fun a x => by
  rcases x with x | ⟨i, p, hi, e1, e2⟩
  · exact E.ft a x
  · obtain ⟨b, e3, _, _, o⟩ := E.ow i p e1
    rw [e2] at e3
    cases e3
    exact o.mut
/-- the heap grows; F may change -/
theorem EnvRep.ext (E : EnvRep K F H0 H σ ρ) (e : Ext F H H') (ft : FT F H') (sm : Same H0 H') : EnvRep K F H0 H' σ ρ where
  len := E.len
  val := fun i p h => let ⟨v, h1, h2⟩ := E.val i p h; ⟨v, h1, Rep.ext (E.ftX []) (fun b o q n => e b o q fun z => n (.inl z)) p v h2⟩
  ow := fun i p h => let ⟨a, h2, h4, h5, h6⟩ := E.ow i p h; ⟨a, h2, h4, h5, h6.move (fun o q => e _ _ q h4) fun ps vs r => Reps.ext (E.ftX []) (fun b o q n => e b o q fun z => n (.inl z)) ps vs r⟩
  inj := E.inj
  same := sm
  ft := ft
  bs := E.bs
theorem EnvRep.grow (E : EnvRep K F H0 H σ ρ) (s : Same H H') : EnvRep K F H0 H' σ ρ := E.ext (Same.ext s) (E.ft.same s) (E.same.trans s)
end
mutual
/-- what is not tracked is not leaned on -/
theorem rep_avoidZ {K : PySem.W.Frag} {G Z : Addr → Prop} {H : Hp} (ha : ∀ a, Z a → H a = none) : ∀ (p : PyData) (v : V), Rep K G H p v → Rep K (fun b => G b ∨ Z b) H p v
  | .none, _, h => h
  | .bool _, _, h => h
  | .int _, _, h => h
  | .str _, _, h => h
  | .list ps, v, h => by
    unfold Rep at h ⊢
    obtain ⟨b, vs, ev, ls, r⟩ := h
    exact ⟨b, vs, ev, ls.avoid ha, reps_avoidZ ha ps vs r⟩
  | .tuple ps, v, h => by
    unfold Rep at h ⊢
    obtain ⟨b, vs, ev, sq, r⟩ := h
    exact ⟨b, vs, ev, sq, reps_avoidZ ha ps vs r⟩
  | .dict ks, v, h => by
    unfold Rep at h ⊢
    obtain ⟨b, ev, h⟩ := h
    refine ⟨b, ev, h.imp id fun ⟨o, ok, hb, nf⟩ => ⟨o, ok, hb, fun z => ?_⟩⟩
    rcases z with z | z
    · exact nf z
    · rw [ha b z] at hb; cases hb
theorem reps_avoidZ {K : PySem.W.Frag} {G Z : Addr → Prop} {H : Hp} (ha : ∀ a, Z a → H a = none) : ∀ (ps : List PyData) (vs : List V), Reps K G H ps vs → Reps K (fun b => G b ∨ Z b) H ps vs
  | [], [], _ => by unfold Reps; trivial
  | p :: ps, v :: vs, h => by
    unfold Reps at h ⊢
    exact ⟨rep_avoidZ ha p v h.1, reps_avoidZ ha ps vs h.2⟩
  | [], _ :: _, h => by unfold Reps at h; exact h.elim
  | _ :: _, [], h => by unfold Reps at h; exact h.elim
end
theorem rep_avoid {K : PySem.W.Frag} {G : Addr → Prop} {H : Hp} {a : Addr} (ha : H a = none) (p : PyData) (v : V) (h : Rep K G H p v) : Rep K (fun b => G b ∨ b = a) H p v := rep_avoidZ (Z := fun b => b = a) (fun b e => by rw [e]; exact ha) p v h
theorem reps_avoid {K : PySem.W.Frag} {G : Addr → Prop} {H : Hp} {a : Addr} (ha : H a = none) (ps : List PyData) (vs : List V) (h : Reps K G H ps vs) : Reps K (fun b => G b ∨ b = a) H ps vs := reps_avoidZ (Z := fun b => b = a) (fun b e => by rw [e]; exact ha) ps vs h
/-- the value p, its items alone leaning on nothing of G -/
def RepI (K : PySem.W.Frag) (G : Addr → Prop) (H : Hp) (p : PyData) (v : V) : Prop := match p with
  | .list ps => ∃ a vs, v = .ref a ∧ SqL K H a vs ∧ Reps K G H ps vs
  | .dict ks => Rep K (fun _ => False) H (.dict ks) v
  | p => Rep K G H p v
theorem RepI.of {K : PySem.W.Frag} {G : Addr → Prop} {H : Hp} {p : PyData} {v : V} (h : Rep K G H p v) : RepI K G H p v := by
  cases p with
  | list ps =>
    unfold Rep at h
    obtain ⟨a, vs, e, ls, r⟩ := h
    exact ⟨a, vs, e, ls.sql, r⟩
  | dict ks => exact Rep.sub (fun _ z => z.elim) _ _ h
  | _ => exact h
/-- what an expression's value is: p; a new list where fr -/
def RepR (K : PySem.W.Frag) (G : Addr → Prop) (H H' : Hp) (fr : Bool) (p : PyData) (v : V) : Prop :=
  Rep K G H' p v ∧ (fr = true → ∀ ps, p = .list ps → ∃ a vs, v = .ref a ∧ H a = none ∧ H' a = some (.lst vs) ∧ Reps K (fun b => G b ∨ b = a) H' ps vs)
/-- an expression's reading -/
def rd (K : KB) (W : XW) (ev : PEnv → R PyData) (lk li : List Nat) (fr : Bool) : TE := fun σ H Q => ∃ ρ F H0, EnvRep K F H0 H σ ρ ∧
  RP W (ev ρ) fun p => ∀ v H', Same H H' → RepR K (FX F lk σ ρ) H H' fr p v → RepI K (FX F li σ ρ) H' p v → Q v H'
/-- an argument list's -/
def rdA (K : KB) (W : XW) (ev : PEnv → R (List PyData)) (lk : List Nat) : TA := fun σ H Q => ∃ ρ F H0, EnvRep K F H0 H σ ρ ∧
  RP W (ev ρ) fun ps => ∀ vs H', Same H H' → Reps K (FX F lk σ ρ) H' ps vs → Q vs H'
/-- a test's -/
def rdT (K : KB) (W : XW) (ev : PEnv → R Bool) : TT := fun σ H Q => ∃ ρ F H0, EnvRep K F H0 H σ ρ ∧
  RP W (ev ρ) fun b => ∀ H', Same H H' → Q b H'
theorem PE.imp {X : Cx} {e : Expr} {t t' : TE} (h : PE X e t) (f : ∀ σ H Q, t' σ H Q → t σ H Q) : PE X e t' := ⟨fun pins s σ H Q I q => h.run pins s σ H Q I (f σ H Q q)⟩
theorem PT.imp {X : Cx} {e : Expr} {t t' : TT} (h : PT X e t) (f : ∀ σ H Q, t' σ H Q → t σ H Q) : PT X e t' := ⟨fun pins s σ H Q I q => h.run pins s σ H Q I (f σ H Q q)⟩
theorem PA.imp {X : Cx} {e : List Expr} {t t' : TA} (h : PA X e t) (f : ∀ σ H Q, t' σ H Q → t σ H Q) : PA X e t' := ⟨fun pos pins s σ H Q I q => h.run pos pins s σ H Q I (f σ H Q q)⟩
theorem PS.imp {X : Cx} {e : Stmt} {t t' : TS} (h : PS X e t) (f : ∀ D σ H, t' D σ H → t D σ H) : PS X e t' := ⟨fun pins s σ H D I q => h.run pins s σ H D I (f D σ H q)⟩
theorem PSs.imp {X : Cx} {e : List Stmt} {t t' : TS} (h : PSs X e t) (f : ∀ D σ H, t' D σ H → t D σ H) : PSs X e t' := ⟨fun pins s σ H D I q => h.run pins s σ H D I (f D σ H q)⟩
end L2.Pu
namespace L2.Pu
open PySem PySem.Spec PyProof.Rows
/-! ### the pure language -/
inductive Op where
  | add | sub | mul | fdiv | mod | pow | shl | shr | band | bor | bxor
inductive Cm where
  | eq | ne | lt | le | gt | ge | isn | notn | inn | notin
  deriving DecidableEq
inductive Bi where
  | len | list1 | tuple1 | max2 | min2 | int1 | sorted1 | sum1 | max1 | any1 | str1
inductive Mt where
  | cnt | ix
inductive Src where
  | seq | rng1 | rng2 | rng3 | enm | rev | zip
inductive Tg where
  | nm (i : Nat)
  | tp (is : List Nat)
inductive E where
  | var (i : Nat)
  | cst (p : PyData)
  | rep (es : List E) (n : E)
  | bin (o : Op) (a b : E)
  | neg (a : E)
  | nt (a : E)
  | conj (a b : E)
  | disj (a b : E)
  | ife (c a b : E)
  | cmp (o : Cm) (a b : E)
  | chain (o o' : Cm) (a b c : E)
  | tup (es : List E)
  | lst (es : List E)
  | idx (a i : E)
  | sl (a : E) (lo hi : Option E)
  | call (f : Nat) (fr : Bool) (es : List E) (ds : List PyData)
  | bi (b : Bi) (es : List E)
  | isi (ty : String) (e : E)
  | comp (own : List Nat) (tg : Tg) (s : Src) (es : List E) (cond : Option E) (elt : E)
  | isx (c : Str) (e : E)
  | meth (m : Mt) (a b : E)
  | bitl (a : E)
  | lenN (a : E)
  | lrg (a : E)
  | lrg2 (a b : E)
  | sset (a : E)
  | lrev (a : E)
  | jn (a b : E)
  | spl (a b : E)
  | fs (x : Str) (a : E)
  | dget (a k : E)
  | tget (a k : E)
  | tgt2 (a k d : E)
  | tsrt (a : E)
  | dgt2 (a k d : E)
  | dlen (a : E)
  | dsrt (a : E)
/-- what a try may hold: one call, its value to a name or dropped; or one of two by a test -/
inductive TB where
  | cal (k : Option Nat) (f : Nat) (fr : Bool) (es : List E) (ds : List PyData)
  | ite (c : E) (a b : TB)
inductive S where
  | asg (tg : Tg) (e : E)
  | sub (i : Nat) (k e : E)
  | app (i : Nat) (e : E)
  | ext (i : Nat) (e : E)
  | clr (i : Nat)
  | drop (e : E)
  | ife (c : E) (a b : List S)
  | loop (tg : Tg) (s : Src) (es : List E) (body : List S)
  | whl (c : E) (body : List S)
  | ret (fr : Bool) (e : E)
  | retN
  | brk
  | cnt
  | pass
  | never
  | rs (c : Str)
  | ins (i : Nat) (k e : E)
  | tryx (b : TB) (cn : Str) (i : Option Nat) (h : List S)
  | mov (j i : Nat)
  | rem (i : Nat) (e : E)
  | asf (i : Nat) (e : E)
  | dnew (i : Nat)
  | tnew (i : Nat)
  | lenv (i : Nat) (b : List S) (e : E)
  | crfv (j i f : Nat) (a : E) (es : List E)
  | tput (i : Nat) (k e : E)
  | dnw1 (i : Nat) (k e : E)
  | dput (i : Nat) (k e : E)
  | cref (i : Nat) (f : Nat) (es : List E)
  | lent (b : List S)
  | weave (i j c : Nat) (k : Int) (a b : E) (sg ad ts : Nat)
  | lpk (i k : Nat) (body : List S)
/-! ### operations on values -/
def okI (i : Int) : R PyData := .ok (.int i)
def mulOk (i j : Int) : Bool := decide (i.natAbs.log2 + j.natAbs.log2 < 100000000)
def shlOk (i j : Int) : Bool := decide (0 ≤ j) && decide (i.natAbs.log2 + j.toNat < 100000000)
def opI2 (o : Op) (i j : Int) : R PyData := match o with
  | .add => okI (i + j)
  | .sub => okI (i - j)
  | .mul => guardR (mulOk i j) (okI (i * j))
  | .fdiv => guardR (decide (0 < j) && decide (j.natAbs.log2 < 9000)) (okI (i / j))
  | .mod => guardR (decide (0 < j)) (okI (i % j))
  | .pow => guardR (decide (0 ≤ j) && decide (j ≤ 1000000) && decide (i.natAbs < 2 ^ 64)) (okI (i ^ j.toNat))
  | .shl => guardR (shlOk i j) (okI (i * 2 ^ j.toNat))
  | .shr => guardR (decide (0 ≤ j)) (okI (i / 2 ^ j.toNat))
  | .band => okI (Builtin.bitAnd i j)
  | .bor => okI (Builtin.bitOr i j)
  | .bxor => okI (Builtin.bitXor i j)
def fitsN (n : Nat) : Bool := decide (n ≤ 16000000)
def opV (o : Op) (x y : PyData) : R PyData := match x, y with
  | .int i, .int j => opI2 o i j
  | .tuple xs, .tuple ys => (match o with
    | .add => guardR (fitsN (xs.length + ys.length)) (.ok (.tuple (xs ++ ys)))
    | _ => .bad)
  | .list xs, .list ys => (match o with
    | .add => guardR (fitsN (xs.length + ys.length)) (.ok (.list (xs ++ ys)))
    | _ => .bad)
  | .str x, .str y => (match o with
    | .add => guardR (fitsN (x.length + y.length)) (.ok (.str (x ++ y)))
    | _ => .bad)
  | _, _ => .bad
def negV : PyData → R PyData
  | .int i => .ok (.int (-i))
  | _ => .bad
def notV : PyData → R PyData
  | .bool b => .ok (.bool (!b))
  | _ => .bad
def boolV : PyData → R Bool
  | .bool b => .ok b
  | _ => .bad
def okB (b : Bool) : R PyData := .ok (.bool b)
def eqV2 (x y : PyData) : R Bool := match x, y with
  | .int i, .int j => .ok (decide (i = j))
  | .str a, .str b => .ok (decide (a = b))
  | x, y => guardR (SeqAt.shaped x && SeqAt.shaped y) (.ok (PyData.eqv x y))
def isNone : PyData → Bool
  | .none => true
  | _ => false
def cmI (o : Cm) (i j : Int) : R PyData := match o with
  | .lt => okB (decide (i < j))
  | .le => okB (decide (i ≤ j))
  | .gt => okB (decide (j < i))
  | .ge => okB (decide (j ≤ i))
  | _ => .bad
def flatP : PyData → Bool
  | .none => true
  | .bool _ => true
  | .int _ => true
  | .str _ => true
  | _ => false
def inV2 (x : PyData) (ys : List PyData) : R Bool := guardR (flatP x && ys.all flatP) (.ok (ys.any fun y => PyData.eqv y x))
def inVD (x : PyData) (ys : List PyData) : R Bool := guardR (SeqAt.shaped x && SeqAt.shaped (.list ys)) (.ok (ys.any fun y => PyData.eqv y x))
/-- in a list: flat ones, or a tuple among tuples -/
def inL (x : PyData) (ys : List PyData) : R Bool := match x with
  | .tuple xs => inVD (.tuple xs) ys
  | x => inV2 x ys
def strIn (w z : Str) : Bool := !(Builtin.Str.occurrences z w 0 z.length 1).isEmpty
def cmV (o : Cm) (x y : PyData) : R PyData := match o with
  | .eq => (eqV2 x y).bind fun b => okB b
  | .ne => (eqV2 x y).bind fun b => okB (!b)
  | .isn => okB (isNone x)
  | .notn => okB (!isNone x)
  | .inn => (match y with
    | .list ys => (inL x ys).bind fun b => okB b
    | .tuple ys => (inV2 x ys).bind fun b => okB b
    | .str z => (match x with
      | .str w => okB (strIn w z)
      | _ => .bad)
    | _ => .bad)
  | .notin => (match y with
    | .list ys => (inL x ys).bind fun b => okB (!b)
    | .tuple ys => (inV2 x ys).bind fun b => okB (!b)
    | .str z => (match x with
      | .str w => okB (!strIn w z)
      | _ => .bad)
    | _ => .bad)
  | _ => (match x, y with
    | .int i, .int j => cmI o i j
    | _, _ => .bad)
def optR {α : Type} : Option α → R α
  | some a => .ok a
  | none => .bad
def idxV (x y : PyData) : R PyData := match x, y with
  | .list xs, .int i => optR (atI xs i)
  | .tuple xs, .int i => optR (atI xs i)
  | _, _ => .bad
def cutP (xs : List PyData) (lo hi : Option Int) : List PyData := (xs.drop (HT.sIx xs.length 0 lo)).take (HT.sIx xs.length xs.length hi - HT.sIx xs.length 0 lo)
def sliceV (x : PyData) (lo hi : Option Int) : R PyData := match x with
  | .list xs => .ok (.list (cutP xs lo hi))
  | .tuple xs => .ok (.tuple (cutP xs lo hi))
  | _ => .bad
def intV : PyData → R Int
  | .int i => .ok i
  | _ => .bad
def intsP : List PyData → Option (List Int)
  | [] => some []
  | .int i :: ps => (intsP ps).map fun ns => i :: ns
  | _ :: _ => none
def boolsP : List PyData → Option (List Bool)
  | [] => some []
  | .bool i :: ps => (boolsP ps).map fun ns => i :: ns
  | _ :: _ => none
def maxI : Int → List Int → Int
  | m, [] => m
  | m, i :: l => maxI (if i > m then i else m) l
def insI (i : Int) : List Int → List Int
  | [] => [i]
  | j :: l => if i ≤ j then i :: j :: l else j :: insI i l
def sortI : List Int → List Int
  | [] => []
  | i :: l => insI i (sortI l)
/-- tuples by their items: ints, at the first place all ints or all texts -/
abbrev TK := List (Int ⊕ List Nat)
def ltK (a b : TK) : Bool := PyProof.Rows.lexLt PyProof.Rows.itemOrd a b
def keyI : PyData → Option (Int ⊕ List Nat)
  | .int n => some (.inl n)
  | .str x => some (.inr x.cps.toList)
  | _ => none
def strAt : PyData → Bool
  | .str _ => true
  | _ => false
def intAt : PyData → Bool
  | .int _ => true
  | _ => false
def headS : List PyData → Bool
  | .tuple (p :: _) :: _ => strAt p
  | _ => false
def tupOk (b : Bool) : PyData → Bool
  | .tuple (p :: ps) => (if b = true then strAt p else intAt p) && ps.all intAt
  | _ => false
def tupKeyP : PyData → TK
  | .tuple ps => ps.filterMap keyI
  | _ => []
def insT (x : PyData) : List PyData → List PyData
  | [] => [x]
  | y :: l => if ltK (tupKeyP y) (tupKeyP x) = true then y :: insT x l else x :: y :: l
def sortT : List PyData → List PyData
  | [] => []
  | x :: l => insT x (sortT l)
def sortV (xs : List PyData) : R PyData := match intsP xs with
  | some ns => .ok (.list ((sortI ns).map .int))
  | none => guardR (xs.all (tupOk (headS xs))) (.ok (.list (sortT xs)))
/-- sorted(set(x)): each once, rising -/
def insU {α : Type} (lt : α → α → Bool) (x : α) : List α → List α
  | [] => [x]
  | y :: l => if lt x y = true then x :: y :: l else if lt y x = true then y :: insU lt x l else y :: l
def ssetG {α : Type} (lt : α → α → Bool) : List α → List α
  | [] => []
  | x :: l => insU lt x (ssetG lt l)
def ltI (i j : Int) : Bool := decide (i < j)
def ltL (a b : List Int) : Bool := ltK (a.map Sum.inl) (b.map Sum.inl)
def rowP : PyData → Option (List Int)
  | .tuple ps => intsP ps
  | _ => none
def rowsP : List PyData → Option (List (List Int))
  | [] => some []
  | p :: ps => (rowP p).bind fun r => (rowsP ps).map fun rs => r :: rs
def tupI (r : List Int) : PyData := .tuple (r.map .int)
/-- a list of texts -/
def strsP : List PyData → Option (List Str)
  | [] => some []
  | .str x :: ps => (strsP ps).map fun ys => x :: ys
  | _ :: _ => none
def strV (x : PyData) : R Str := match x with
  | .str t => .ok t
  | _ => .bad
/-- x.join(y) -/
def joinV (a : Str) (y : PyData) : R PyData := match y with
  | .list ps => (match strsP ps with
    | some ys => guardR (decide ((ys.map (·.length)).sum + ys.length * a.length ≤ 16777216)) (.ok (.str (Txt.join a ys)))
    | none => .bad)
  | _ => .bad
/-- x.split(y) -/
def splitV (a : Str) (y : PyData) : R PyData := match y with
  | .str b => guardR (!(b.length == 0) && decide (a.length + 2 ≤ sizeLine)) (.ok (.list ((Txt.split a b).map .str)))
  | _ => .bad
/-- f't{x}' -/
def fsV (t : Str) (x : PyData) : R PyData := match x with
  | .int i => guardR (decide (i.natAbs.log2 < 1920) && (decide ((Str.empty ++ t).length ≤ sizeLine) && decide ((Str.empty ++ t ++ Str.ofString (toString i)).length ≤ sizeLine))) (.ok (.str (Str.empty ++ t ++ Str.ofString (toString i))))
  | _ => .bad
def ssetV (x : PyData) : R PyData := match x with
  | .list xs => (match intsP xs with
    | some ns => guardR (decide (ns.length < 64)) (.ok (.list ((ssetG ltI ns).map .int)))
    | none => (match rowsP xs with
      | some rs => guardR (decide (rs.length < 64) && rs.all fun r => !r.isEmpty) (.ok (.list ((ssetG ltL rs).map tupI)))
      | none => .bad))
  | .tuple xs => (match intsP xs with
    | some ns => guardR (decide (ns.length < 64)) (.ok (.list ((ssetG ltI ns).map .int)))
    | none => .bad)
  | _ => .bad
def enumP (xs : List PyData) : List PyData := xs.mapIdx fun i x => .tuple [.int (i : Nat), x]
def bi1 (b : Bi) (x : PyData) : R PyData := match b with
  | .len => (match x with
    | .list xs => okI xs.length
    | .tuple xs => okI xs.length
    | .str y => guardR (decide (y.length ≤ sizeLine)) (okI y.length)
    | _ => .bad)
  | .list1 => (match x with
    | .list xs => .ok (.list xs)
    | .tuple xs => .ok (.list xs)
    | _ => .bad)
  | .tuple1 => (match x with
    | .list xs => .ok (.tuple xs)
    | .tuple xs => .ok (.tuple xs)
    | _ => .bad)
  | .int1 => (match x with
    | .int i => okI i
    | .bool b => okI (if b = true then 1 else 0)
    | .str a => (match PySem.intText? a with
      | some n => guardR (decide (a.length ≤ 640)) (okI n)
      | none => .bad)
    | _ => .bad)
  | .sorted1 => (match x with
    | .list xs => sortV xs
    | .tuple xs => sortV xs
    | _ => .bad)
  | .sum1 => (match x with
    | .list xs => (match intsP xs with
      | some ns => okI ns.sum
      | none => .bad)
    | _ => .bad)
  | .max1 => (match x with
    | .list xs => (match intsP xs with
      | some (i :: l) => okI (maxI i l)
      | _ => .bad)
    | .tuple xs => (match intsP xs with
      | some (i :: l) => okI (maxI i l)
      | _ => .bad)
    | _ => .bad)
  | .any1 => (match x with
    | .list xs => (match boolsP xs with
      | some bs => okB (bs.any id)
      | none => .bad)
    | _ => .bad)
  | .str1 => (match x with
    | .int i => guardR (decide (i.natAbs.log2 < 1920)) (.ok (.str (Str.ofString (toString i))))
    | .str y => .ok (.str y)
    | _ => .bad)
  | _ => .bad
def bi2 (b : Bi) (x y : PyData) : R PyData := match b with
  | .max2 => (match x, y with
    | .int i, .int j => okI (if j > i then j else i)
    | _, _ => .bad)
  | .min2 => (match x, y with
    | .int i, .int j => okI (if j < i then j else i)
    | _, _ => .bad)
  | _ => .bad
def biV (b : Bi) (as : List PyData) : R PyData := match as with
  | [x] => bi1 b x
  | [x, y] => bi2 b x y
  | _ => .bad
def tyOfP : PyData → String
  | .none => "NoneType"
  | .bool _ => "bool"
  | .int _ => "int"
  | .str _ => "str"
  | .list _ => "list"
  | .tuple _ => "tuple"
  | .dict _ => ""
def ends62 (i : Int) : Bool := decide (-(2 ^ 62) ≤ i) && decide (i < 2 ^ 62)
def rangeP (lo : Int) (n : Nat) (c : Int) : List PyData := (List.range n).map fun (k : Nat) => PyData.int (lo + k * c)
def rng3Ok (i j c : Int) : Bool := decide (c ≠ 0) && decide (c.natAbs < 1073741824) && Builtin.Range.small i j c
def src1 (s : Src) (x : PyData) : R (List PyData) := match s with
  | .seq => (match x with
    | .list xs => .ok xs
    | .tuple xs => .ok xs
    | _ => .bad)
  | .rng1 => (match x with
    | .int j => guardR (ends62 j) (.ok (rangeP 0 j.toNat 1))
    | _ => .bad)
  | .enm => (match x with
    | .list xs => .ok (enumP xs)
    | .tuple xs => .ok (enumP xs)
    | _ => .bad)
  | .rev => (match x with
    | .list xs => .ok xs.reverse
    | .tuple xs => .ok xs.reverse
    | _ => .bad)
  | _ => .bad
def zipP (xs ys : List PyData) : List PyData := List.zipWith (fun a b => .tuple [a, b]) xs ys
def src2 (s : Src) (x y : PyData) : R (List PyData) := match s with
  | .zip => (match x, y with
    | .list xs, .list ys => guardR (decide (xs.length = ys.length)) (.ok (zipP xs ys))
    | .tuple xs, .tuple ys => guardR (decide (xs.length = ys.length)) (.ok (zipP xs ys))
    | _, _ => .bad)
  | .rng2 => (match x, y with
    | .int i, .int j => guardR (ends62 i && ends62 j) (.ok (rangeP i (j - i).toNat 1))
    | _, _ => .bad)
  | _ => .bad
def src3 (s : Src) (x y z : PyData) : R (List PyData) := match s with
  | .rng3 => (match x, y, z with
    | .int i, .int j, .int c => guardR (rng3Ok i j c) (.ok (rangeP i (Builtin.Range.rangeSize i j c).toNat c))
    | _, _, _ => .bad)
  | _ => .bad
def srcItems (s : Src) (as : List PyData) : R (List PyData) := match as with
  | [x] => src1 s x
  | [x, y] => src2 s x y
  | [x, y, z] => src3 s x y z
  | _ => .bad
/-! ### the names -/
def isListP : PyData → Bool
  | .list _ => true
  | _ => false
mutual
def noList : PyData → Bool
  | .none => true
  | .bool _ => true
  | .int _ => true
  | .str _ => true
  | .tuple ps => noLists ps
  | .list _ => false
  | .dict _ => false
def noLists : List PyData → Bool
  | [] => true
  | p :: ps => noList p && noLists ps
end
def share1 : Sl → Sl
  | some (_, p) => some (false, p)
  | none => none
/-- the slots of L own nothing from here on -/
def share : List Nat → PEnv → PEnv
  | [], ρ => ρ
  | i :: L, ρ => (share L ρ).modify i share1
def setAll : List Nat → List PyData → PEnv → R PEnv
  | [], [], ρ => .ok ρ
  | i :: is, p :: ps, ρ => setAll is ps (ρ.set i (some (false, p)))
  | _, _, _ => .bad
def setTg (tg : Tg) (fr : Bool) (p : PyData) (ρ : PEnv) : R PEnv := match tg with
  | .nm i => .ok (ρ.set i (some (fr && isListP p, p)))
  | .tp is => (match p with
    | .tuple ps => setAll is ps ρ
    | _ => .bad)
def wipeP : List Nat → PEnv → PEnv
  | [], ρ => ρ
  | i :: L, ρ => (wipeP L ρ).set i none
def notOwn (ρ : PEnv) (i : Nat) : Bool := match ρ[i]? with
  | some (some (true, _)) => false
  | _ => true
/-! ### what a value may lean on -/
mutual
def lk : E → List Nat
  | .var i => [i]
  | .cst _ => []
  | .rep es _ => lks es
  | .bin _ a b => lkI a ++ lkI b
  | .neg _ => []
  | .nt _ => []
  | .conj a b => lk a ++ lk b
  | .disj a b => lk a ++ lk b
  | .ife _ a b => lk a ++ lk b
  | .cmp _ _ _ => []
  | .chain _ _ _ _ _ => []
  | .tup es => lks es
  | .lst es => lks es
  | .idx a i => lkI a ++ lkI i
  | .sl a _ _ => lkI a
  | .call _ _ es _ => lks es
  | .bi _ es => lks es
  | .isi _ _ => []
  | .isx _ _ => []
  | .meth _ _ _ => []
  | .lrg _ => []
  | .lrg2 _ _ => []
  | .bitl _ => []
  | .lenN _ => []
  | .sset _ => []
  | .jn _ _ => []
  | .spl _ _ => []
  | .fs _ _ => []
  | .dget _ _ => []
  | .dgt2 _ _ _ => []
  | .dlen _ => []
  | .dsrt _ => []
  | .tget _ _ => []
  | .tgt2 _ _ _ => []
  | .tsrt _ => []
  | .lrev a => lkI a
  | .comp _ _ _ es _ elt => lks es ++ lk elt
/-- what its items may lean on -/
def lkI : E → List Nat
  | .var _ => []
  | .cst _ => []
  | .rep es _ => lks es
  | .bin _ a b => lkI a ++ lkI b
  | .neg _ => []
  | .nt _ => []
  | .conj a b => lk a ++ lk b
  | .disj a b => lk a ++ lk b
  | .ife _ a b => lk a ++ lk b
  | .cmp _ _ _ => []
  | .chain _ _ _ _ _ => []
  | .tup es => lks es
  | .lst es => lks es
  | .idx a i => lkI a ++ lkI i
  | .sl a _ _ => lkI a
  | .call _ _ es _ => lks es
  | .bi _ es => lks es
  | .isi _ _ => []
  | .isx _ _ => []
  | .meth _ _ _ => []
  | .lrg _ => []
  | .lrg2 _ _ => []
  | .bitl _ => []
  | .lenN _ => []
  | .sset _ => []
  | .jn _ _ => []
  | .spl _ _ => []
  | .fs _ _ => []
  | .dget _ _ => []
  | .dgt2 _ _ _ => []
  | .dlen _ => []
  | .dsrt _ => []
  | .tget _ _ => []
  | .tgt2 _ _ _ => []
  | .tsrt _ => []
  | .lrev a => lkI a
  | .comp _ _ _ es _ elt => lks es ++ lk elt
def lks : List E → List Nat
  | [] => []
  | e :: es => lk e ++ lks es
end
/-- a list that it makes is new -/
def fresh : E → Bool
  | .bin _ _ _ => true
  | .rep _ _ => true
  | .lst _ => true
  | .sl _ _ _ => true
  | .comp _ _ _ _ _ _ => true
  | .call _ fr _ _ => fr
  | .bi .list1 _ => true
  | .bi .sorted1 _ => true
  | .lrg _ => true
  | .lrg2 _ _ => true
  | .sset _ => true
  | .lrev _ => true
  | .spl _ _ => true
  | .dsrt _ => true
  | .tsrt _ => true
  | _ => false
/-! ### methods -/
def listV : PyData → R (List PyData)
  | .list xs => .ok xs
  | _ => .bad
def methV (m : Mt) (xs : List PyData) (y : PyData) : R PyData := match m with
  | .cnt => guardR (flatP y && xs.all flatP) (okI (xs.countP fun z => PyData.eqv z y))
  | .ix => guardR ((flatP y && xs.all flatP) || (SeqAt.shaped (.list xs) && SeqAt.shaped y)) (match xs.findIdx? fun z => PyData.eqv z y with
      | some j => okI (j : Nat)
      | none => .bad)
/-- list(range(n)) -/
def lrgV : PyData → R PyData
  | .int j => guardR (decide (-(2 ^ 62) ≤ j) && decide (j ≤ 16777216)) (.ok (.list (rangeP 0 j.toNat 1)))
  | _ => .bad
def lrg2V (x y : PyData) : R PyData := match x, y with
  | .int i, .int j => guardR (decide (-(2 ^ 62) ≤ i) && (decide (i ≤ 16777216) && (decide (-(2 ^ 62) ≤ j) && (decide (j ≤ 16777216) && decide (j - i ≤ 16777216))))) (.ok (.list (rangeP i (j - i).toNat 1)))
  | _, _ => .bad
def bitlV : PyData → R PyData
  | .int i => okI (Builtin.Int.intBits i : Nat)
  | _ => .bad
/-! ### exceptions -/
def isiV (ty : String) (x : PyData) : R PyData := match x with
  | .dict _ => .bad
  | x => (match kitB (tyOfP x) ty with
    | some b => .ok (.bool b)
    | none => .bad)
def isxV (c : Str) (x : PyData) : R PyData := match x with
  | .dict [(.str d, _)] => (match subX d c with
    | some b => okB b
    | none => .bad)
  | _ => .bad
/-! ### evaluation -/
inductive Fl where
  | nx (ρ : PEnv)
  | rt (p : PyData)
  | bk (ρ : PEnv)
  | ct (ρ : PEnv)
/-! ### dicts -/
def valI (l : List (Int × PyData)) (k : Int) : Option PyData := (l.find? fun kv => decide (kv.1 = k)).map (·.2)
def putI (l : List (Int × PyData)) (k : Int) (v : PyData) : List (Int × PyData) :=
  if (l.any fun kv => decide (kv.1 = k)) = true then l.map (fun kv => if kv.1 = k then (kv.1, v) else kv) else l ++ [(k, v)]
def dictV : PyData → R (List (Int × PyData))
  | .dict ks => optR (unD ks)
  | _ => .bad
def dgetV (l : List (Int × PyData)) (k : Int) : R PyData := optR (valI l k)
def dgt2V (l : List (Int × PyData)) (k : Int) (z : PyData) : R PyData := guardR (scV z).isSome (.ok ((valI l k).getD z))
def dsrtV (l : List (Int × PyData)) : R PyData := guardR (decide (l.length < 10000)) (sortV (l.map fun kv => .int kv.1))
def valT (l : List (List Int × PyData)) (k : List Int) : Option PyData := (l.find? fun kv => decide (kv.1 = k)).map (·.2)
def putT (l : List (List Int × PyData)) (k : List Int) (v : PyData) : List (List Int × PyData) :=
  if (l.any fun kv => decide (kv.1 = k)) = true then l.map (fun kv => if kv.1 = k then (kv.1, v) else kv) else l ++ [(k, v)]
def tdV : PyData → R (List (List Int × PyData))
  | .dict ks => optR (unT ks)
  | _ => .bad
/-- a key: one to three ints, the first above nought -/
def keyK : List Int → Bool
  | i :: r => decide (1 ≤ i) && decide (r.length ≤ 2)
  | [] => false
def keyV : PyData → R (List Int)
  | .tuple ps => optR (intsK ps)
  | _ => .bad
def tgetV (l : List (List Int × PyData)) (k : List Int) : R PyData := guardR (keyK k) (optR (valT l k))
def tgt2V (l : List (List Int × PyData)) (k : List Int) (z : PyData) : R PyData := guardR (keyK k && (scV z).isSome) (.ok ((valT l k).getD z))
def tkP (k : List Int) : PyData := .tuple (k.map .int)
def tsrtV (l : List (List Int × PyData)) : R PyData := guardR (l.all fun kv => keyK kv.1) (.ok (.list (sortT (l.map fun kv => tkP kv.1))))
def dslot : Sl → R (List (PyData × PyData))
  | some (true, .dict ks) => .ok ks
  | _ => .bad
/-! ### a sum that grows row by row: an object with lists of its own -/
structure Wv where
  ws : Int
  mkd : Int
  fh : Int
  car : List Int
  ph : PyData
  tis : List Int
  hid : List Int
  rd : Int
abbrev PF := List PyData → R PyData
def w0 (w l : Int) : R Wv := guardR (decide (0 ≤ w) && decide (w ≤ 60)) (.ok ⟨w, 2 * w + 1, 2 * w + 1 + l, (List.range w.toNat).map fun (j : Nat) => (2 : Int) * 2 ^ j, .tuple [.int 0, .tuple []], [], [], 0⟩)
def putC (W : Wv) (i : Int) (z : Int) : R Wv := (optR (ixN W.car.length i)).bind fun j => .ok { W with car := W.car.set j z }
def setPh (W : Wv) (r : R PyData) : R Wv := r.calm.bind fun p => guardR (noList p) (.ok { W with ph := p })
def swingW (sg : PF) (i : Int) (W : Wv) : R Wv := guardR (shlOk 1 (W.fh + (W.hid.length : Int)) && fitsN W.hid.length) ((optR (atI W.car i)).bind fun c =>
  (setPh { W with hid := W.hid ++ [W.fh + (W.hid.length : Int)] } (sg [W.ph, .int c, .int (1 * 2 ^ (W.fh + (W.hid.length : Int)).toNat)])).bind fun W1 => putC W1 i (1 * 2 ^ (W.fh + (W.hid.length : Int)).toNat))
def lookW (i : Int) (W : Wv) : R Wv := guardR (shlOk 1 (W.mkd + W.rd) && fitsN W.tis.length) ((optR (atI W.car i)).bind fun c => .ok { W with tis := W.tis ++ [Builtin.bitXor c (1 * 2 ^ (W.mkd + W.rd).toNat)], rd := W.rd + 1 })
def tupR (p : PyData) : R (List PyData) := match p with
  | .tuple ps => .ok ps
  | _ => .bad
def nthI (ps : List PyData) (k : Int) : R Int := (optR (atI ps k)).bind intV
def kindR (p : PyData) (ps : List PyData) : R Str := (optR (atI ps 0)).bind strV
def whereW (sg : PF) (m : Int) (row : PyData) (W : Wv) : R Wv := guardR (shlOk 1 (W.mkd + m)) ((tupR row).bind fun ps => (kindR row ps).bind fun s => (nthI ps 1).bind fun i => (optR (atI W.car i)).bind fun c =>
  if s = "flip" then putC W i (Builtin.bitXor c (1 * 2 ^ (W.mkd + m).toNat)) else setPh W (sg [W.ph, .int c, .int (1 * 2 ^ (W.mkd + m).toNat)]))
def twoW (sg : PF) (row : PyData) (W : Wv) : R Wv := (tupR row).bind fun ps => (kindR row ps).bind fun s => (nthI ps 1).bind fun i => (nthI ps 2).bind fun k => (optR (atI W.car i)).bind fun c => (optR (atI W.car k)).bind fun d =>
  if s = "tie" then putC W k (Builtin.bitXor c d) else if s = "sign" then setPh W (sg [W.ph, .int c, .int d]) else (putC W i d).bind fun W1 => putC W1 k c
def phV (p : PyData) (k : Int) : R PyData := (tupR p).bind fun ps => optR (atI ps k)
def takeW (sg ad : PF) (row : PyData) (W : Wv) : R Wv := (tupR row).bind fun ps => (kindR row ps).bind fun s =>
  if s = "swing" then (nthI ps 1).bind fun i => swingW sg i W
  else if s = "turn" then (nthI ps 1).bind fun i => (optR (atI ps 2)).bind fun e => (phV W.ph 0).bind fun a => (phV W.ph 1).bind fun b => (optR (atI W.car i)).bind fun c => setPh W (ad [a, b, .int c, e])
  else if s = "flip" then (nthI ps 1).bind fun i => (optR (atI W.car i)).bind fun c => putC W i (Builtin.bitXor c 1)
  else if s = "look" then (nthI ps 1).bind fun i => lookW i W
  else if s = "where" then (nthI ps 1).bind fun m => (optR (atI ps 2)).bind fun r => whereW sg m r W
  else twoW sg row W
def endsR (W : Wv) : Nat → R (List Int)
  | 0 => .ok []
  | j + 1 => (endsR W j).bind fun l => (optR W.car[j]?).bind fun c => guardR (shlOk 2 (W.ws + (0 + (j : Int)))) (.ok (l ++ [Builtin.bitXor c (2 * 2 ^ (W.ws + (0 + (j : Int))).toNat)]))
def endW (ts : PF) (W : Wv) : R PyData := guardR (decide (0 ≤ W.ws) && decide (W.ws ≤ 60)) ((endsR W W.ws.toNat).bind fun l => guardR (fitsN (W.tis.length + l.length) && fitsN W.hid.length) ((ts [.list ((W.tis ++ l).map .int)]).calm.bind fun t => guardR (noList t) ((phV W.ph 0).bind fun a => (phV W.ph 1).bind fun b =>
  .ok (.tuple [.tuple [.int W.ws, .int W.rd], .int W.hid.length, a, b, t, .tuple (W.hid.map .int)]))))
def takesW (sg ad : PF) : List PyData → Wv → R Wv
  | [], W => .ok W
  | r :: rs, W => (takeW sg ad r W).bind fun W1 => takesW sg ad rs W1
def wendV (sg ad ts : PF) (rows : List PyData) (W : Wv) : R PyData := guardR (noLists rows) ((takesW sg ad rows W).bind fun W1 => endW ts W1)
def rowsAt (s : Option Sl) (k : Int) : R (List PyData) := match s with
  | some (some (false, .tuple cs)) => (optR (atI cs k)).bind tupR
  | _ => .bad
def compGo (elt : PEnv → R PyData) (cond : PEnv → R Bool) (tg : Tg) (ρ : PEnv) : List PyData → R (List PyData)
  | [] => .ok []
  | x :: xs => (setTg tg false x ρ).bind fun ρ1 => (cond ρ1).calm.bind fun b =>
    if b = true then (elt ρ1).calm.bind fun y => (compGo elt cond tg ρ xs).bind fun ys => .ok (y :: ys) else compGo elt cond tg ρ xs
section
variable (Φ : Nat → List PyData → R PyData)
mutual
def evE : E → PEnv → R PyData
  | .var i, ρ => (match ρ[i]? with
    | some (some (_, p)) => .ok p
    | _ => .bad)
  | .cst p, _ => .ok p
  | .rep es n, ρ => (evEs es ρ).bind fun ps => (evE n ρ).bind fun y => (intV y).bind fun k => guardR (decide (-(2 ^ 63) ≤ k) && decide (k < 2 ^ 63) && fitsN (ps.length * k.toNat)) (.ok (.list (List.replicate k.toNat ps).flatten))
  | .bin o a b, ρ => (evE a ρ).bind fun x => (evE b ρ).bind fun y => opV o x y
  | .neg a, ρ => (evE a ρ).bind negV
  | .nt a, ρ => (evE a ρ).bind notV
  | .conj a b, ρ => (evE a ρ).bind fun x => (boolV x).bind fun c => if c = true then evE b ρ else .ok (.bool false)
  | .disj a b, ρ => (evE a ρ).bind fun x => (boolV x).bind fun c => if c = true then .ok (.bool true) else evE b ρ
  | .ife c a b, ρ => (evE c ρ).bind fun x => (boolV x).bind fun c => if c = true then evE a ρ else evE b ρ
  | .cmp o a b, ρ => (evE a ρ).bind fun x => (evE b ρ).bind fun y => cmV o x y
  | .chain o o' a b c, ρ => (evE a ρ).bind fun x => (evE b ρ).bind fun y => (cmV o x y).bind fun z => (boolV z).bind fun k => if k = true then (evE c ρ).bind fun u => cmV o' y u else .ok (.bool false)
  | .tup es, ρ => (evEs es ρ).bind fun ps => .ok (.tuple ps)
  | .lst es, ρ => (evEs es ρ).bind fun ps => .ok (.list ps)
  | .idx a i, ρ => (evE a ρ).bind fun x => (evE i ρ).bind fun y => idxV x y
  | .sl a lo hi, ρ => (evE a ρ).bind fun x => (evO lo ρ).bind fun l => (evO hi ρ).bind fun h => sliceV x l h
  | .call f _ es ds, ρ => (evEs es ρ).bind fun ps => Φ f (ps ++ ds)
  | .bi b es, ρ => (evEs es ρ).bind fun ps => biV b ps
  | .isi ty e, ρ => (evE e ρ).bind fun x => isiV ty x
  | .isx c e, ρ => (evE e ρ).bind fun x => isxV c x
  | .meth m a b, ρ => (evE a ρ).bind fun x => (listV x).bind fun xs => (evE b ρ).bind fun y => methV m xs y
  | .bitl a, ρ => (evE a ρ).bind bitlV
  | .lenN a, ρ => (evE a ρ).bind fun x => biV .len [x]
  | .lrg a, ρ => (evE a ρ).bind lrgV
  | .lrg2 a b, ρ => (evE a ρ).bind fun x => (evE b ρ).bind fun y => lrg2V x y
  | .sset a, ρ => (evE a ρ).bind ssetV
  | .jn a b, ρ => (evE a ρ).bind fun x => (strV x).bind fun t => (evE b ρ).bind fun y => joinV t y
  | .spl a b, ρ => (evE a ρ).bind fun x => (strV x).bind fun t => (evE b ρ).bind fun y => splitV t y
  | .fs t a, ρ => (evE a ρ).bind (fsV t)
  | .dget a k, ρ => (evE a ρ).bind fun x => (evE k ρ).bind fun y => (dictV x).bind fun l => (intV y).bind fun k => dgetV l k
  | .dgt2 a k d, ρ => (evE a ρ).bind fun x => (dictV x).bind fun l => (evE k ρ).bind fun y => (intV y).bind fun k => (evE d ρ).bind fun z => dgt2V l k z
  | .tget a k, ρ => (evE a ρ).bind fun x => (evE k ρ).bind fun y => (tdV x).bind fun l => (keyV y).bind fun k => tgetV l k
  | .tgt2 a k d, ρ => (evE a ρ).bind fun x => (tdV x).bind fun l => (evE k ρ).bind fun y => (keyV y).bind fun k => (evE d ρ).bind fun z => tgt2V l k z
  | .tsrt a, ρ => (evE a ρ).bind fun x => (tdV x).bind tsrtV
  | .dlen a, ρ => (evE a ρ).bind fun x => (dictV x).bind fun l => okI (l.length : Nat)
  | .dsrt a, ρ => (evE a ρ).bind fun x => (dictV x).bind dsrtV
  | .lrev a, ρ => (evE a ρ).bind fun x => (listV x).bind fun xs => .ok (.list xs.reverse)
  | .comp own tg s es cond elt, ρ => (evEs es ρ).bind fun ps => (srcItems s ps).bind fun items =>
    guardR (own.all (notOwn ρ) && fitsN items.length) ((compGo (evE elt) (evC cond) tg (wipeP own (share (lks es) ρ)) items).calm.bind fun ys => .ok (.list ys))
def evEs : List E → PEnv → R (List PyData)
  | [], _ => .ok []
  | e :: es, ρ => (evE e ρ).bind fun p => (evEs es ρ).bind fun ps => .ok (p :: ps)
def evO : Option E → PEnv → R (Option Int)
  | none, _ => .ok none
  | some e, ρ => (evE e ρ).bind fun x => (intV x).bind fun i => .ok (some i)
def evC : Option E → PEnv → R Bool
  | none, _ => .ok true
  | some e, ρ => (evE e ρ).bind boolV
end
def forGo (body : PEnv → R Fl) (tg : Tg) : List PyData → PEnv → R Fl
  | [], ρ => .ok (.nx ρ)
  | x :: xs, ρ => (setTg tg false x ρ).bind fun ρ1 => (body ρ1).bind fun fl => (match fl with
    | .nx ρ2 => forGo body tg xs ρ2
    | .ct ρ2 => forGo body tg xs ρ2
    | .bk ρ2 => .ok (.nx ρ2)
    | .rt p => .ok (.rt p))
/-- slot i owns the numbers l -/
def isO (ρ : PEnv) (i : Nat) (l : List Int) : Bool := match ρ[i]? with
  | some (some (true, .list ys)) => (match intsP ys with
    | some m => decide (m = l)
    | none => false)
  | _ => false
/-- for over the numbers that slot i owns and keeps -/
def forK (body : PEnv → R Fl) (i k : Nat) (all : List Int) : List Int → PEnv → R Fl
  | [], ρ => .ok (.nx ρ)
  | x :: r, ρ => (body (ρ.set k (some (false, .int x)))).bind fun fl => (match fl with
    | .nx ρ2 => guardR (isO ρ2 i all) (forK body i k all r ρ2)
    | .rt p => .ok (.rt p)
    | _ => .bad)
def whileGo (c : PEnv → R Bool) (body : PEnv → R Fl) : Nat → PEnv → R Fl
  | 0, _ => .bad
  | n + 1, ρ => (c ρ).bind fun b => if b = true then (body ρ).bind fun fl => (match fl with
    | .nx ρ2 => whileGo c body n ρ2
    | .ct ρ2 => whileGo c body n ρ2
    | .bk ρ2 => .ok (.nx ρ2)
    | .rt p => .ok (.rt p)) else .ok (.nx ρ)
/-- what a def gives back that was lent a dict and tells a value -/
def pairV : PyData → R (List (Int × PyData) × PyData)
  | .tuple [.dict ks, q] => guardR (noList q && !isM ks) ((optR (unD ks)).bind fun l => .ok (l, q))
  | _ => .bad
/-- the end of a def that was lent a dict: the dict is handed back -/
def lentE : R Fl → R Fl
  | .ok (.nx ρ1) => (optR ρ1[0]?).bind fun sl => (dslot sl).bind fun ks => guardR (isM ks) ((optR (unD ks)).bind fun l => .ok (.rt (.dict (dL l))))
  | _ => .bad
def isOwn (ρ : PEnv) (i : Nat) : Bool := match ρ[i]? with
  | some (some (true, _)) => true
  | _ => false
def retV (fr : Bool) (e : E) (ρ : PEnv) (p : PyData) : R Fl :=
  guardR (!fr || !isListP p || fresh e || (match e with | .var i => isOwn ρ i | _ => false)) (.ok (.rt p))
/-- one call that may raise -/
def asgV (j : Nat) (e : E) (ρ : PEnv) : R Fl := (evE Φ e ρ).bind fun p => (setTg (.nm j) (fresh e) p (share (if noList p = true then [] else lk e) ρ)).bind fun ρ1 => .ok (.nx ρ1)
def evTB : TB → PEnv → R Fl
  | .cal k f fr es ds, ρ => (evEs Φ es ρ).calm.bind fun _ => (match k with
    | some j => asgV Φ j (.call f fr es ds) ρ
    | none => (evE Φ (.call f fr es ds) ρ).bind fun _ => .ok (.nx ρ))
  | .ite c a b, ρ => (evE Φ c ρ).calm.bind fun x => (boolV x).bind fun t => if t = true then evTB a ρ else evTB b ρ
def handV (b : Option Bool) (as : List PyData) (r : R Fl) : Str → R Fl := fun c => match b with
  | some true => guardR as.isEmpty r.calm
  | some false => .ex c as
  | none => .bad
def unsetF (i : Option Nat) : Fl → Fl
  | .nx ρ => .nx (match i with | some i => ρ.set i none | none => ρ)
  | .bk ρ => .bk (match i with | some i => ρ.set i none | none => ρ)
  | .ct ρ => .ct (match i with | some i => ρ.set i none | none => ρ)
  | .rt p => .rt p
def setX (i : Option Nat) (c : Str) (ρ : PEnv) : PEnv := match i with
  | some i => ρ.set i (some (false, exV c []))
  | none => ρ
variable (w : Nat)
mutual
def evS : S → PEnv → R Fl
  | .asg tg e, ρ => (evE Φ e ρ).bind fun p => (setTg tg (fresh e) p (share (if noList p = true then [] else lk e) ρ)).bind fun ρ1 => .ok (.nx ρ1)
  | .sub i k e, ρ => (evE Φ e ρ).bind fun p => (match ρ[i]? with
    | some (some (true, .list xs)) => (evE Φ k ρ).bind fun kv => (intV kv).bind fun k => (optR (ixN xs.length k)).bind fun j => guardR (noList p || !(lk e).contains i) (.ok (.nx ((share (if noList p = true then [] else lk e) ρ).set i (some (true, .list (xs.set j p))))))
    | _ => .bad)
  | .app i e, ρ => (match ρ[i]? with
    | some (some (true, .list xs)) => (evE Φ e ρ).bind fun p => guardR (fitsN xs.length && (noList p || !(lk e).contains i)) (.ok (.nx ((share (if noList p = true then [] else lk e) ρ).set i (some (true, .list (xs ++ [p]))))))
    | _ => .bad)
  | .ext i e, ρ => (match ρ[i]? with
    | some (some (true, .list xs)) => (evE Φ e ρ).bind fun p => (match p with
      | .list ys => guardR (fresh e && fitsN (xs.length + ys.length) && (noLists ys || !(lk e).contains i)) (.ok (.nx ((share (if noLists ys = true then [] else lk e) ρ).set i (some (true, .list (xs ++ ys))))))
      | _ => .bad)
    | _ => .bad)
  | .clr i, ρ => (match ρ[i]? with
    | some (some (true, .list _)) => .ok (.nx (ρ.set i (some (true, .list []))))
    | _ => .bad)
  | .drop e, ρ => (evE Φ e ρ).bind fun _ => .ok (.nx ρ)
  | .ife c a b, ρ => (evE Φ c ρ).bind fun x => (boolV x).bind fun t => if t = true then evSs a ρ else evSs b ρ
  | .loop tg s es body, ρ => (evEs Φ es ρ).bind fun ps => (srcItems s ps).bind fun items => forGo (evSs body) tg items (share (lks es) ρ)
  | .whl c body, ρ => whileGo (fun ρ => (evE Φ c ρ).bind boolV) (evSs body) w ρ
  | .ret fr e, ρ => (evE Φ e ρ).bind fun p => retV fr e ρ p
  | .retN, _ => .ok (.rt .none)
  | .brk, ρ => .ok (.bk ρ)
  | .cnt, ρ => .ok (.ct ρ)
  | .pass, ρ => .ok (.nx ρ)
  | .never, _ => .bad
  | .rs c, _ => .ex c []
  | .ins i k e, ρ => (match ρ[i]? with
    | some (some (true, .list xs)) => (evE Φ k ρ).bind fun kv => (intV kv).bind fun k => (evE Φ e ρ).bind fun p => guardR (decide (0 ≤ k) && decide (k < 2 ^ 62) && fitsN xs.length && noList p) (.ok (.nx (ρ.set i (some (true, .list (xs.take k.toNat ++ [p] ++ xs.drop k.toNat))))))
    | _ => .bad)
  | .mov j i, ρ => (match ρ[i]? with
    | some (some (true, p)) => .ok (.nx ((ρ.set i none).set j (some (true, p))))
    | _ => .bad)
  | .rem i e, ρ => (match ρ[i]? with
    | some (some (true, .list xs)) => (evE Φ e ρ).bind fun p => guardR (SeqAt.shaped (.list xs) && SeqAt.shaped p) (match xs.findIdx? fun z => PyData.eqv z p with
      | some k => .ok (.nx (ρ.set i (some (true, .list (xs.eraseIdx k)))))
      | none => .bad)
    | _ => .bad)
  | .asf i e, ρ => (evE Φ e ρ).bind fun p => (match p with
    | .list ps => guardR (fresh e && noLists ps) (.ok (.nx (ρ.set i (some (true, .list ps)))))
    | _ => .bad)
  | .dnew i, ρ => .ok (.nx (ρ.set i (some (true, .dict []))))
  | .lenv i b e, ρ => (match ρ[i]? with
    | some (some (_, .dict ks)) => (optR (unD ks)).bind fun l => (evSs b (ρ.set i (some (true, .dict ((.none, .none) :: dL l))))).bind fun fl => (match fl with
      | .nx ρ1 => (evE Φ e ρ1).bind fun p => guardR (noList p) ((optR ρ1[i]?).bind fun sl => (dslot sl).bind fun ks => guardR (isM ks) ((optR (unD ks)).bind fun l => .ok (.rt (.tuple [.dict (dL l), p]))))
      | _ => .bad)
    | _ => .bad)
  | .crfv j i f a es, ρ => (optR ρ[i]?).bind fun sl => (dslot sl).bind fun ks => (optR (unD ks)).bind fun l => (evE Φ a ρ).bind fun p0 => (evEs Φ es ρ).bind fun ps => guardR (noList p0 && noLists ps) ((Φ f (p0 :: .dict (dL l) :: ps)).calm.bind fun r => (pairV r).bind fun q => .ok (.nx ((ρ.set i (some (true, .dict (reD ks q.1)))).set j (some (false, q.2)))))
  | .tnew i, ρ => .ok (.nx (ρ.set i (some (true, .dict (tL [])))))
  | .tput i k e, ρ => (evE Φ e ρ).bind fun p => (optR ρ[i]?).bind fun sl => (dslot sl).bind fun ks => (evE Φ k ρ).bind fun y => (keyV y).bind fun k => (optR (unT ks)).bind fun l => guardR (keyK k && ((scV p).isSome && fitsN l.length)) (.ok (.nx (ρ.set i (some (true, .dict (tL (putT l k p)))))))
  | .dnw1 i k e, ρ => (evE Φ k ρ).bind fun y => (intV y).bind fun k => (evE Φ e ρ).bind fun p => guardR (scV p).isSome (.ok (.nx (ρ.set i (some (true, .dict (dL [(k, p)]))))))
  | .dput i k e, ρ => (evE Φ e ρ).bind fun p => (optR ρ[i]?).bind fun sl => (dslot sl).bind fun ks => (evE Φ k ρ).bind fun y => (intV y).bind fun k => (optR (unD ks)).bind fun l => guardR ((scV p).isSome && fitsN l.length) (.ok (.nx (ρ.set i (some (true, .dict (reD ks (putI l k p)))))))
  | .cref i f es, ρ => (optR ρ[i]?).bind fun sl => (dslot sl).bind fun ks => (optR (unD ks)).bind fun l => (evEs Φ es ρ).bind fun ps => guardR (noLists ps) ((Φ f (.dict (dL l) :: ps)).calm.bind fun p => (dictV p).bind fun l' => .ok (.nx (ρ.set i (some (true, .dict (reD ks l'))))))
  | .lent b, ρ => (optR ρ[0]?).bind fun sl => (match sl with
    | some (_, .dict ks) => (optR (unD ks)).bind fun l => lentE (evSs b (ρ.set 0 (some (true, .dict ((.none, .none) :: dL l)))))
    | _ => .bad)
  | .lpk i k body, ρ => (match ρ[i]? with
    | some (some (true, .list xs)) => (optR (intsP xs)).bind fun l => forK (evSs body) i k l l ρ
    | _ => .bad)
  | .weave i j c k a b sg ad ts, ρ => guardR (decide (i < ρ.length) && decide (j < ρ.length)) ((evE Φ a ρ).bind fun x => (intV x).bind fun w => (evE Φ b ρ).bind fun y => (intV y).bind fun l => (w0 w l).calm.bind fun W0 => (rowsAt ρ[c]? k).calm.bind fun rows => (wendV (Φ sg) (Φ ad) (Φ ts) rows W0).calm.bind fun p => .ok (.rt p))
  | .tryx b cn i h, ρ => (match evTB Φ b ρ with
    | .ok fl => .ok fl
    | .ex c as => handV (subX c cn) as ((evSs h (setX i c ρ)).bind fun fl => .ok (unsetF i fl)) c
    | .bad => .bad)
def evSs : List S → PEnv → R Fl
  | [], ρ => .ok (.nx ρ)
  | s :: ss, ρ => (evS s ρ).bind fun fl => (match fl with
    | .nx ρ1 => evSs ss ρ1
    | .rt p => .ok (.rt p)
    | .bk ρ1 => .ok (.bk ρ1)
    | .ct ρ1 => .ok (.ct ρ1))
end
end
/-- a def: how many parameters, how many slots, its body, whether the list that it hands back is new -/
structure Df where
  ps : Nat
  n : Nat
  fr : Bool
  body : List S
def startP (n : Nat) (as : List PyData) : PEnv := as.map (fun p => some (false, p)) ++ List.replicate (n - as.length) none
def endV : R Fl → R PyData
  | .ok (.rt p) => .ok p
  | .ok (.nx _) => .ok .none
  | .ok _ => .bad
  | .ex c as => .ex c as
  | .bad => .bad
def call (tab : Nat → Option Df) (w : Nat) : Nat → Nat → List PyData → R PyData
  | 0, _, _ => .bad
  | n + 1, f, as => (match tab f with
    | none => .bad
    | some d => guardR (decide (as.length = d.ps)) (endV (evSs (call tab w n) w d.body (startP d.n as))))
end L2.Pu
namespace L2.Pu
open PySem PySem.Spec PyProof.Rows
/-! ### operations keep to the values -/
section
variable {X : Cx}
theorem RP.ok {α : Type} {W : XW} {a : α} {P : α → Prop} (h : RP W (.ok a) P) : P a := h
theorem upd_same_grow {H : Hp} {p : Addr} {o : HO} (h : H p = none) : Same H (upd H p o) := fun b x e => by
  rw [upd_ne (ne_of_none e h)]
  exact e
theorem rep_int {K : PySem.W.Frag} {G : Addr → Prop} {H : Hp} {i : Int} : Rep K G H (.int i) (.int i) := by unfold Rep; rfl
theorem rep_bool {K : PySem.W.Frag} {G : Addr → Prop} {H : Hp} {i : Bool} : Rep K G H (.bool i) (.bl i) := by unfold Rep; rfl
theorem repR_of {K : PySem.W.Frag} {G : Addr → Prop} {H H' : Hp} {fr : Bool} {p : PyData} {v : V} (h : Rep K G H' p v) (n : isListP p = false) : RepR K G H H' fr p v :=
  ⟨h, fun _ ps e => by subst e; cases n⟩
/-- an operation of two values, by values -/
def r2P (K : PySem.W.Frag) (fr : Bool) (f : PyData → PyData → R PyData) : R2 := fun x y H Q => ∃ p q G, FT G H ∧ RepI K G H p x ∧ RepI K G H q y ∧ ∃ W : XW,
  RP W (f p q) fun z => ∀ v H', Same H H' → RepR K G H H' fr z v → Q v H'
theorem two_int {K : PySem.W.Frag} {G : Addr → Prop} {H : Hp} {i : Int} {x : V} (h : RepI K G H (.int i) x) : x = .int i := by
  unfold RepI Rep at h; exact h
theorem fits_le {n : Nat} (h : fitsN n = true) : n ≤ sizeLine := by
  unfold fitsN at h
  have h2 := of_decide_eq_true h
  rw [sizeLine_eq]
  omega
theorem new_list {K : PySem.W.Frag} {G : Addr → Prop} {H : Hp} {p : Addr} {vs : List V} {ps : List PyData} (hp : H p = none) (ft : FT G H) (r : Reps K G H ps vs) :
    RepR K G H (upd H p (.lst vs)) true (.list ps) (.ref p) := by
  have sm := upd_same_grow (o := .lst vs) hp
  refine ⟨?_, fun _ qs e => ⟨p, vs, rfl, hp, upd_same, by cases e; exact Reps.grow sm ps vs (reps_avoid hp ps vs r)⟩⟩
  unfold Rep
  refine ⟨p, vs, rfl, .own upd_same fun z => ?_, r.same ft sm⟩
  obtain ⟨xs, e, _⟩ := ft p z
  rw [hp] at e; cases e
theorem new_tup {K : PySem.W.Frag} {G : Addr → Prop} {H : Hp} {p : Addr} {vs : List V} {ps : List PyData} (hp : H p = none) (ft : FT G H) (r : Reps K G H ps vs) :
    RepR K G H (upd H p (.tup vs)) true (.tuple ps) (.ref p) := by
  have sm := upd_same_grow (o := .tup vs) hp
  refine ⟨?_, fun _ qs e => by cases e⟩
  unfold Rep
  exact ⟨p, vs, rfl, .of upd_same, r.same ft sm⟩
/-- list + list -/
theorem cat_ll {pins : List (Addr × Obj)} {σ : L2.St} {H : Hp} {s : Shared} {a b : Addr} {xs ys : List V} {Q : VK} (I : Inv X pins σ H s) (ha : SqL X.K H a xs) (hb : SqL X.K H b ys) (hz : xs.length + ys.length ≤ sizeLine)
    (q : ∀ p, H p = none → Q (.ref p) (upd H p (.lst (xs ++ ys)))) : wpAny (model X.prog X.w) X.A (binaryOp .Add (.ref a) (.ref b)) (EP X pins σ Q) X.xe s := by
  obtain ⟨us, r1, ⟨⟨c1, d1, t1, l1⟩, n1, g1, e1, f1, h1⟩, _⟩ := I.list ha
  obtain ⟨ws, r2, ⟨⟨c2, d2, t2, l2⟩, n2, g2, e2, f2, h2⟩, _⟩ := I.list hb
  simp only at e1 f1 h1 e2 f2 h2
  subst e1 f1 h1 e2 f2 h2
  have z : us.toArray.size + ws.toArray.size ≤ sizeLine := by
    rw [List.size_toArray, List.size_toArray, ← r1.length, ← r2.length]; exact hz
  have ea : us.toArray ++ ws.toArray = (us ++ ws).toArray := by simp
  refine concat_meets ⟨_, g1, rfl⟩ ⟨_, g2, rfl⟩ noFill_list_add seq_list_add PySem.F.slot_list_add PySem.F.entry_list_add (PySem.F.args_list_add_2 _ _) (list_addW _ _ _ _ n1 n2 none none l1 l2 z) ⟨g1, g2, ?_⟩
  rw [ea]
  exact ⟨.ref _, _, I.lnew (t' := s.toks) (r1.append r2) (by rw [List.length_append]; exact hz), rfl, q _ I.fresh⟩
theorem Reps.rep {K : PySem.W.Frag} {G : Addr → Prop} {H : Hp} {ps : List PyData} {vs : List V} (r : Reps K G H ps vs) : ∀ n : Nat, Reps K G H (List.replicate n ps).flatten (List.replicate n vs).flatten
  | 0 => by
    show Reps K G H [] []
    unfold Reps; trivial
  | n + 1 => by
    rw [List.replicate_succ, List.replicate_succ, List.flatten_cons, List.flatten_cons]
    exact Reps.append r (Reps.rep r n)
def opA : Op → Operator
  | .add => .Add
  | .sub => .Sub
  | .mul => .Mult
  | .fdiv => .FloorDiv
  | .mod => .Mod
  | .pow => .Pow
  | .shl => .LShift
  | .shr => .RShift
  | .band => .BitAnd
  | .bor => .BitOr
  | .bxor => .BitXor
theorem intBits_log (i : Int) : Builtin.Int.intBits i ≤ i.natAbs.log2 + 1 := by
  unfold Builtin.Int.intBits
  split <;> omega
theorem op_ints (o : Op) {pins : List (Addr × Obj)} {s : Shared} {σ : L2.St} {H : Hp} {i j : Int} {v u : Value} {Q : VK} {K : PySem.W.Frag} {G : Addr → Prop} {W : XW} (I : Inv X pins σ H s) (rx : RelV (.int i) v) (ry : RelV (.int j) u)
    (h : RP W (opI2 o i j) fun z => ∀ v H', Same H H' → RepR K G H H' true z v → Q v H') : wpAny (model X.prog X.w) X.A (binaryOp (opA o) v u) (EP X pins σ Q) X.xe s := by
  have fin : ∀ {k : Int}, (∀ v H', Same H H' → RepR K G H H' true (.int k) v → Q v H') → Q (.int k) H := fun q => q _ H (Same.refl H) (repR_of rep_int rfl)
  cases o with
  | add => exact op_add pins s σ H _ _ v u Q I rx ry ⟨i, j, rfl, rfl, fin h⟩
  | sub => exact op_sub pins s σ H _ _ v u Q I rx ry ⟨i, j, rfl, rfl, fin h⟩
  | mul =>
    obtain ⟨c, q⟩ := RP.guard h
    refine op_mulX pins s σ H _ _ v u Q I rx ry ⟨i, j, rfl, rfl, ?_, fin q⟩
    unfold mulOk at c
    have c := of_decide_eq_true c
    have h1 := intBits_log i
    have h2 := intBits_log j
    unfold CMulX
    omega
  | fdiv =>
    obtain ⟨c, q⟩ := RP.guard h
    rw [Bool.and_eq_true] at c
    exact op_fdivW pins s σ H _ _ v u Q I rx ry ⟨i, j, rfl, rfl, ⟨of_decide_eq_true c.1, of_decide_eq_true c.2⟩, fin q⟩
  | mod =>
    obtain ⟨c, q⟩ := RP.guard h
    exact op_mod pins s σ H _ _ v u Q I rx ry ⟨i, j, rfl, rfl, of_decide_eq_true c, fin q⟩
  | pow =>
    obtain ⟨c, q⟩ := RP.guard h
    rw [Bool.and_eq_true, Bool.and_eq_true] at c
    exact op_pow pins s σ H _ _ v u Q I rx ry ⟨i, j, rfl, rfl, ⟨of_decide_eq_true c.1.1, of_decide_eq_true c.1.2, of_decide_eq_true c.2⟩, fin q⟩
  | shl =>
    obtain ⟨c, q⟩ := RP.guard h
    unfold shlOk at c
    rw [Bool.and_eq_true] at c
    have c1 := of_decide_eq_true c.1
    have c2 := of_decide_eq_true c.2
    refine op_shlW pins s σ H _ _ v u Q I rx ry ⟨i, j, rfl, rfl, ⟨c1, ?_⟩, fin q⟩
    have h1 := intBits_log i
    have e : (2 : Int) ^ 27 = 134217728 := by decide
    rw [e]
    omega
  | shr =>
    obtain ⟨c, q⟩ := RP.guard h
    exact op_shr pins s σ H _ _ v u Q I rx ry ⟨i, j, rfl, rfl, of_decide_eq_true c, fin q⟩
  | band => exact op_and pins s σ H _ _ v u Q I rx ry ⟨i, j, rfl, rfl, fin h⟩
  | bor => exact op_or pins s σ H _ _ v u Q I rx ry ⟨i, j, rfl, rfl, fin h⟩
  | bxor => exact op_xor pins s σ H _ _ v u Q I rx ry ⟨i, j, rfl, rfl, fin h⟩
theorem op_all (o : Op) : OpR X (binaryOp (opA o)) (r2P X.K true (opV o)) := by
  intro pins s σ H x y v u Q I rx ry h
  obtain ⟨p, q, G, ft, rp, rq, W, h⟩ := h
  cases p with
  | int i =>
    cases q with
    | int j =>
      have ex := two_int rp
      have ey := two_int rq
      subst ex ey
      exact op_ints o I rx ry h
    | _ => exact False.elim h
  | str z =>
    cases q with
    | str z2 =>
      unfold RepI Rep at rp rq
      subst rp rq
      cases o with
      | add =>
        obtain ⟨c, hq⟩ := RP.guard h
        exact op_add_str pins s σ H _ _ v u Q I rx ry ⟨z, z2, rfl, rfl, fits_le c, hq _ H (Same.refl H) (repR_of (by unfold Rep; rfl) rfl)⟩
      | _ => exact False.elim h
    | _ => exact False.elim h
  | tuple xs =>
    cases q with
    | tuple ys =>
      unfold RepI Rep at rp rq
      obtain ⟨a, vs, rfl, sq, r⟩ := rp
      obtain ⟨b, ws, rfl, sq2, r2⟩ := rq
      have l1 := r.length
      have l2 := r2.length
      cases o with
      | add =>
        obtain ⟨c, hq⟩ := RP.guard h
        refine op_catA pins s σ H _ _ v u Q I rx ry ⟨a, b, vs, ws, rfl, rfl, sq, sq2, by rw [l1, l2]; exact fits_le c, fun e => ?_, fun e e2 => ?_, fun e e2 p hp => ?_⟩
        · refine hq _ H (Same.refl H) (repR_of ?_ rfl)
          have e3 : xs = [] := by
            rw [e] at l1
            exact List.length_eq_zero_iff.mp l1.symm
          subst e3
          unfold Rep
          exact ⟨b, ws, rfl, sq2, r2⟩
        · refine hq _ H (Same.refl H) (repR_of ?_ rfl)
          have e3 : ys = [] := by
            rw [e2] at l2
            exact List.length_eq_zero_iff.mp l2.symm
          subst e3
          rw [List.append_nil]
          unfold Rep
          exact ⟨a, vs, rfl, sq, r⟩
        · exact hq _ _ (upd_same_grow hp) (new_tup hp ft (r.append r2))
      | _ => exact False.elim h
    | _ => exact False.elim h
  | list xs =>
    obtain ⟨a, vs, rfl, sq, r⟩ := rp
    have l1 := r.length
    cases q with
    | list ys =>
      obtain ⟨b, ws, rfl, sq2, r2⟩ := rq
      have l2 := r2.length
      cases o with
      | add =>
        obtain ⟨c, hq⟩ := RP.guard h
        cases rx
        cases ry
        exact cat_ll I sq sq2 (by rw [l1, l2]; exact fits_le c) fun p hp => hq _ _ (upd_same_grow hp) (new_list hp ft (r.append r2))
      | _ => exact False.elim h
    | _ => exact False.elim h
  | _ => exact False.elim h
/-! ### comparisons -/
theorem eqV2_cases {W : XW} {x y : PyData} {P : Bool → Prop} (h : RP W (eqV2 x y) P) : P (PyData.eqv x y) ∧ ((∃ i j, x = .int i ∧ y = .int j) ∨ (∃ a b, x = .str a ∧ y = .str b) ∨ (SeqAt.shaped x = true ∧ SeqAt.shaped y = true)) := by
  have gen : RP W (guardR (SeqAt.shaped x && SeqAt.shaped y) (.ok (PyData.eqv x y))) P → P (PyData.eqv x y) ∧ ((∃ i j, x = .int i ∧ y = .int j) ∨ (∃ a b, x = .str a ∧ y = .str b) ∨ (SeqAt.shaped x = true ∧ SeqAt.shaped y = true)) := fun h => by
    obtain ⟨c, q⟩ := RP.guard h
    rw [Bool.and_eq_true] at c
    exact ⟨q, .inr (.inr c)⟩
  cases x with
  | int i =>
    cases y with
    | int j =>
      refine ⟨?_, .inl ⟨i, j, rfl, rfl⟩⟩
      have e : PyData.eqv (.int i) (.int j) = decide (i = j) := by
        unfold PyData.eqv
        by_cases z : i = j
        · rw [z]; simp
        · rw [decide_eq_false z]; simp [z]
      rw [e]; exact h
    | _ => exact gen h
  | str i =>
    cases y with
    | str j =>
      refine ⟨?_, .inr (.inl ⟨i, j, rfl, rfl⟩)⟩
      have e : PyData.eqv (.str i) (.str j) = decide (i = j) := by
        unfold PyData.eqv
        by_cases z : i = j
        · rw [z]; simp
        · rw [decide_eq_false z]; simp [z]
      rw [e]; exact h
    | _ => exact gen h
  | _ => exact gen h
theorem dpI {K : PySem.W.Frag} {G : Addr → Prop} {H : Hp} {p : PyData} {v : V} (c : p.canLay0 = true) (h : RepI K G H p v) : Dp K H v p := by
  cases p with
  | list ps =>
    obtain ⟨a, vs, rfl, sq, r⟩ := h
    exact .lst sq (Reps.dp ps vs (by unfold PyData.canLay0 at c; exact c) r)
  | dict _ => unfold PyData.canLay0 at c; cases c
  | _ => exact Rep.dp (F := G) _ _ c h
theorem op_eqP (hu : X.A.units + 64 < cLine) : OpR X (compareOp .Eq) (r2P X.K false (cmV .eq)) := by
  intro pins s σ H x y v u Q I rx ry h
  obtain ⟨p, q, G, ft, rp, rq, W, h⟩ := h
  obtain ⟨hq, c⟩ := eqV2_cases (RP.bind h)
  have hq : Q (.bl (PyData.eqv p q)) H := hq _ H (Same.refl H) (repR_of rep_bool rfl)
  have eb : ∀ (c : Prop) [Decidable c] (b : Bool), (c ↔ b = true) → decide c = b := fun c _ b e => by
    cases b with
    | true => exact decide_eq_true (e.mpr rfl)
    | false => exact decide_eq_false fun z => Bool.noConfusion (e.mp z)
  rcases c with ⟨i, j, rfl, rfl⟩ | ⟨a, b, rfl, rfl⟩ | ⟨c1, c2⟩
  · have ex := two_int rp
    have ey := two_int rq
    subst ex ey
    refine op_eq pins s σ H _ _ v u Q I rx ry ⟨rfl, ?_⟩
    rw [eb (V.int i = V.int j) (PyData.eqv (.int i) (.int j)) (by unfold PyData.eqv; simp)]
    exact hq
  · unfold RepI Rep at rp rq
    subst rp rq
    refine op_eq pins s σ H _ _ v u Q I rx ry ⟨rfl, ?_⟩
    rw [eb (V.str a = V.str b) (PyData.eqv (.str a) (.str b)) (by unfold PyData.eqv; simp)]
    exact hq
  · exact op_eqD hu pins s σ H _ _ v u Q I rx ry ⟨p, q, dpI (SeqAt.canLay_of_shaped c1) rp, dpI (SeqAt.canLay_of_shaped c2) rq, c1, c2, hq⟩
theorem op_neP (hu : X.A.units + 64 < cLine) : OpR X (compareOp .NotEq) (r2P X.K false (cmV .ne)) := by
  intro pins s σ H x y v u Q I rx ry h
  obtain ⟨p, q, G, ft, rp, rq, W, h⟩ := h
  obtain ⟨hq, c⟩ := eqV2_cases (RP.bind h)
  have hq : Q (.bl (!PyData.eqv p q)) H := hq _ H (Same.refl H) (repR_of rep_bool rfl)
  have eb : ∀ (c : Prop) [Decidable c] (b : Bool), (c ↔ b = true) → decide c = b := fun c _ b e => by
    cases b with
    | true => exact decide_eq_true (e.mpr rfl)
    | false => exact decide_eq_false fun z => Bool.noConfusion (e.mp z)
  rcases c with ⟨i, j, rfl, rfl⟩ | ⟨a, b, rfl, rfl⟩ | ⟨c1, c2⟩
  · have ex := two_int rp
    have ey := two_int rq
    subst ex ey
    refine op_ne pins s σ H _ _ v u Q I rx ry ⟨rfl, ?_⟩
    rw [eb (V.int i = V.int j) (PyData.eqv (.int i) (.int j)) (by unfold PyData.eqv; simp)]
    exact hq
  · unfold RepI Rep at rp rq
    subst rp rq
    refine op_ne pins s σ H _ _ v u Q I rx ry ⟨rfl, ?_⟩
    rw [eb (V.str a = V.str b) (PyData.eqv (.str a) (.str b)) (by unfold PyData.eqv; simp)]
    exact hq
  · exact op_neD hu pins s σ H _ _ v u Q I rx ry ⟨p, q, dpI (SeqAt.canLay_of_shaped c1) rp, dpI (SeqAt.canLay_of_shaped c2) rq, c1, c2, hq⟩
theorem isNone_v {K : PySem.W.Frag} {G : Addr → Prop} {H : Hp} {p : PyData} {v : V} (h : RepI K G H p v) : decide (v = .non) = isNone p := by
  cases p with
  | none => unfold RepI Rep at h; subst h; rfl
  | list ps => obtain ⟨a, vs, rfl, _⟩ := h; rfl
  | tuple ps => unfold RepI Rep at h; obtain ⟨a, vs, rfl, _⟩ := h; rfl
  | dict _ => unfold RepI Rep at h; obtain ⟨a, rfl, _⟩ := h; rfl
  | _ => unfold RepI Rep at h; subst h; rfl
/-- the value that a flat one is -/
def vP : PyData → V
  | .none => .non
  | .bool b => .bl b
  | .int i => .int i
  | .str x => .str x
  | _ => .non
theorem flat_v {K : PySem.W.Frag} {G : Addr → Prop} {H : Hp} {p : PyData} {v : V} (f : flatP p = true) (h : Rep K G H p v) : v = vP p := by
  cases p with
  | list ps => cases f
  | tuple ps => cases f
  | dict _ => cases f
  | _ => unfold Rep at h; exact h
theorem flat_vs {K : PySem.W.Frag} {G : Addr → Prop} {H : Hp} : ∀ {ps : List PyData} {vs : List V}, ps.all flatP = true → Reps K G H ps vs → vs = ps.map vP
  | [], [], _, _ => rfl
  | p :: ps, v :: vs, f, h => by
    unfold Reps at h
    rw [List.all_cons, Bool.and_eq_true] at f
    rw [List.map_cons, flat_v f.1 h.1, flat_vs f.2 h.2]
  | [], _ :: _, _, h => by unfold Reps at h; exact h.elim
  | _ :: _, [], _, h => by unfold Reps at h; exact h.elim
theorem flatV_vP {p : PyData} (f : flatP p = true) : flatV (vP p) = true := by
  cases p <;> first | rfl | cases f
theorem flatV_vPs : ∀ {ps : List PyData}, ps.all flatP = true → (ps.map vP).all flatV = true
  | [], _ => rfl
  | p :: ps, f => by
    rw [List.all_cons, Bool.and_eq_true] at f
    rw [List.map_cons, List.all_cons, flatV_vP f.1, flatV_vPs f.2]; rfl
theorem eqV_vP {p q : PyData} (f : flatP p = true) (g : flatP q = true) : eqV (vP p) (vP q) = PyData.eqv p q := by
  cases p <;> cases q <;> first | (exact absurd f Bool.false_ne_true) | (exact absurd g Bool.false_ne_true) | (unfold PyData.eqv; rfl) | (unfold PyData.eqv; simp [eqV, vP]) | (rename_i a b; cases a <;> cases b <;> (unfold PyData.eqv; rfl))
theorem inV_vP {p : PyData} (f : flatP p = true) : ∀ {ps : List PyData}, ps.all flatP = true → inV (vP p) (ps.map vP) = ps.any fun y => PyData.eqv y p
  | [], _ => rfl
  | q :: ps, g => by
    rw [List.all_cons, Bool.and_eq_true] at g
    have ih := inV_vP f g.2
    unfold inV at ih ⊢
    rw [List.map_cons, List.any_cons, List.any_cons, ih, eqV_vP g.1 f]
theorem seqI {K : PySem.W.Frag} {G : Addr → Prop} {H : Hp} {ys : List PyData} {y : V} (rq : RepI K G H (.list ys) y ∨ RepI K G H (.tuple ys) y) : ∃ a vs, y = .ref a ∧ (SqL K H a vs ∨ SqT K H a vs) ∧ Reps K G H ys vs := by
  rcases rq with h | h
  · obtain ⟨a, vs, e, sq, r⟩ := h
    exact ⟨a, vs, e, .inl sq, r⟩
  · unfold RepI Rep at h
    obtain ⟨a, vs, e, sq, r⟩ := h
    exact ⟨a, vs, e, .inr sq, r⟩
theorem in_core {pins : List (Addr × Obj)} {s : Shared} {σ : L2.St} {H : Hp} {x y : V} {v u : Value} {Q : VK} {G : Addr → Prop} {p : PyData} {ys : List PyData} (neg : Bool) (rp : RepI X.K G H p x) (rq : RepI X.K G H (.list ys) y ∨ RepI X.K G H (.tuple ys) y) {W : XW} {P : Bool → Prop}
    (h : RP W (inV2 p ys) P) (f : ∀ b, P b → Q (.bl (if neg then !b else b)) H) : rIn X.K neg x y H Q := by
  obtain ⟨c, q⟩ := RP.guard h
  rw [Bool.and_eq_true] at c
  obtain ⟨a, vs, rfl, sq, r⟩ := seqI rq
  have ex : x = vP p := by
    have hp : Rep X.K G H p x := by
      cases p with
      | list ps => cases c.1
      | dict ks => cases c.1
      | _ => exact rp
    exact flat_v c.1 hp
  have ev := flat_vs c.2 r
  subst ex ev
  refine ⟨a, _, rfl, sq, flatV_vP c.1, flatV_vPs c.2, ?_⟩
  rw [inV_vP c.1 c.2]
  exact f _ q
def cmA : Cm → CmpOp
  | .eq => .Eq
  | .ne => .NotEq
  | .lt => .Lt
  | .le => .LtE
  | .gt => .Gt
  | .ge => .GtE
  | .isn => .Is
  | .notn => .IsNot
  | .inn => .In
  | .notin => .NotIn
theorem cm_all (hu : X.A.units + 65 < cLine) (o : Cm) (h1 : o ≠ .isn) (h2 : o ≠ .notn) : OpR X (compareOp (cmA o)) (r2P X.K false (cmV o)) := by
  have twoI : ∀ (o : Cm) (p q : PyData) {W : XW} {P : PyData → Prop}, RP W (match p, q with | .int i, .int j => cmI o i j | _, _ => .bad) P → ∃ i j, p = .int i ∧ q = .int j ∧ RP W (cmI o i j) P := fun o p q W P h => by
    cases p with
    | int i =>
      cases q with
      | int j => exact ⟨i, j, rfl, rfl, h⟩
      | _ => exact False.elim h
    | _ => exact False.elim h
  cases o with
  | eq => exact op_eqP (by omega)
  | ne => exact op_neP (by omega)
  | isn => exact absurd rfl h1
  | notn => exact absurd rfl h2
  | inn =>
    intro pins s σ H x y v u Q I rx ry h
    obtain ⟨p, q, G, ft, rp, rq, W, h⟩ := h
    cases q with
    | list ys =>
      cases p with
      | tuple as =>
        obtain ⟨c, q⟩ := RP.guard (RP.bind (show RP W ((inVD (.tuple as) ys).bind fun b => okB b) _ from h))
        rw [Bool.and_eq_true] at c
        exact op_inD hu pins s σ H _ _ v u Q I rx ry ⟨_, _, dpI (SeqAt.canLay_of_shaped c.1) rp, dpI (SeqAt.canLay_of_shaped c.2) rq, c.1, c.2, q _ H (Same.refl H) (repR_of rep_bool rfl)⟩
      | _ => exact op_in_seq pins s σ H _ _ v u Q I rx ry (in_core (s := s) (pins := pins) (σ := σ) (v := v) (u := u) false rp (.inl rq) (RP.bind (show RP W ((inV2 _ ys).bind fun b => okB b) _ from h)) fun b q => q _ H (Same.refl H) (repR_of rep_bool rfl))
    | tuple ys => exact op_in_seq pins s σ H _ _ v u Q I rx ry (in_core (s := s) (pins := pins) (σ := σ) (v := v) (u := u) false rp (.inr rq) (RP.bind h) fun b q => q _ H (Same.refl H) (repR_of rep_bool rfl))
    | str z =>
      cases p with
      | str w =>
        have ex : x = V.str w := by
          have t := rp
          unfold RepI Rep at t
          exact t
        have ey : y = V.str z := by
          have t := rq
          unfold RepI Rep at t
          exact t
        exact op_in_str pins s σ H _ _ v u Q I rx ry ⟨w, z, ex, ey, h _ H (Same.refl H) (repR_of rep_bool rfl)⟩
      | _ => exact False.elim h
    | _ => exact False.elim h
  | notin =>
    intro pins s σ H x y v u Q I rx ry h
    obtain ⟨p, q, G, ft, rp, rq, W, h⟩ := h
    cases q with
    | list ys =>
      cases p with
      | tuple as =>
        obtain ⟨c, q⟩ := RP.guard (RP.bind (show RP W ((inVD (.tuple as) ys).bind fun b => okB (!b)) _ from h))
        rw [Bool.and_eq_true] at c
        exact op_notInD hu pins s σ H _ _ v u Q I rx ry ⟨_, _, dpI (SeqAt.canLay_of_shaped c.1) rp, dpI (SeqAt.canLay_of_shaped c.2) rq, c.1, c.2, q _ H (Same.refl H) (repR_of rep_bool rfl)⟩
      | _ => exact op_notIn_seq pins s σ H _ _ v u Q I rx ry (in_core (s := s) (pins := pins) (σ := σ) (v := v) (u := u) true rp (.inl rq) (RP.bind (show RP W ((inV2 _ ys).bind fun b => okB (!b)) _ from h)) fun b q => q _ H (Same.refl H) (repR_of rep_bool rfl))
    | tuple ys => exact op_notIn_seq pins s σ H _ _ v u Q I rx ry (in_core (s := s) (pins := pins) (σ := σ) (v := v) (u := u) true rp (.inr rq) (RP.bind h) fun b q => q _ H (Same.refl H) (repR_of rep_bool rfl))
    | str z =>
      cases p with
      | str w =>
        have ex : x = V.str w := by
          have t := rp
          unfold RepI Rep at t
          exact t
        have ey : y = V.str z := by
          have t := rq
          unfold RepI Rep at t
          exact t
        exact op_notIn_str pins s σ H _ _ v u Q I rx ry ⟨w, z, ex, ey, h _ H (Same.refl H) (repR_of rep_bool rfl)⟩
      | _ => exact False.elim h
    | _ => exact False.elim h
  | lt =>
    intro pins s σ H x y v u Q I rx ry h
    obtain ⟨p, q, G, ft, rp, rq, W, h⟩ := h
    obtain ⟨i, j, rfl, rfl, h⟩ := twoI .lt p q h
    exact op_lt pins s σ H _ _ v u Q I rx ry ⟨i, j, two_int rp, two_int rq, h _ H (Same.refl H) (repR_of rep_bool rfl)⟩
  | le =>
    intro pins s σ H x y v u Q I rx ry h
    obtain ⟨p, q, G, ft, rp, rq, W, h⟩ := h
    obtain ⟨i, j, rfl, rfl, h⟩ := twoI .le p q h
    exact op_le pins s σ H _ _ v u Q I rx ry ⟨i, j, two_int rp, two_int rq, h _ H (Same.refl H) (repR_of rep_bool rfl)⟩
  | gt =>
    intro pins s σ H x y v u Q I rx ry h
    obtain ⟨p, q, G, ft, rp, rq, W, h⟩ := h
    obtain ⟨i, j, rfl, rfl, h⟩ := twoI .gt p q h
    exact op_gt pins s σ H _ _ v u Q I rx ry ⟨i, j, two_int rp, two_int rq, h _ H (Same.refl H) (repR_of rep_bool rfl)⟩
  | ge =>
    intro pins s σ H x y v u Q I rx ry h
    obtain ⟨p, q, G, ft, rp, rq, W, h⟩ := h
    obtain ⟨i, j, rfl, rfl, h⟩ := twoI .ge p q h
    exact op_ge pins s σ H _ _ v u Q I rx ry ⟨i, j, two_int rp, two_int rq, h _ H (Same.refl H) (repR_of rep_bool rfl)⟩
/-! ### subscripts, slices -/
theorem atI_rep {K : PySem.W.Frag} {G : Addr → Prop} {H : Hp} {ps : List PyData} {vs : List V} {i : Int} {p : PyData} (r : Reps K G H ps vs) (h : atI ps i = some p) : ∃ v, atI vs i = some v ∧ Rep K G H p v := by
  unfold atI at h ⊢
  rw [r.length]
  cases e : ixN ps.length i with
  | none => rw [e] at h; cases h
  | some j =>
    rw [e] at h
    exact r.get h
theorem ix_all : IxR X (r2P X.K false idxV) := by
  intro value slice pins s σ H x y v u Q I rx ry h hs
  obtain ⟨p, q, G, ft, rp, rq, W, h⟩ := h
  cases p with
  | list xs =>
    cases q with
    | int i =>
      obtain ⟨a, vs, rfl, sq, r⟩ := rp
      have ey := two_int rq
      subst ey
      have h : RP W (optR (atI xs i)) _ := h
      cases e : atI xs i with
      | none => rw [e] at h; exact False.elim h
      | some z =>
        rw [e] at h
        obtain ⟨w, ew, rw'⟩ := atI_rep r e
        exact ix_list value slice pins s σ H _ _ v u Q I rx ry ⟨a, vs, i, w, rfl, rfl, sq, ew, h _ H (Same.refl H) ⟨rw', fun z => Bool.noConfusion z⟩⟩ hs
    | _ => exact False.elim h
  | tuple xs =>
    cases q with
    | int i =>
      unfold RepI Rep at rp
      obtain ⟨a, vs, rfl, sq, r⟩ := rp
      have ey := two_int rq
      subst ey
      have h : RP W (optR (atI xs i)) _ := h
      cases e : atI xs i with
      | none => rw [e] at h; exact False.elim h
      | some z =>
        rw [e] at h
        obtain ⟨w, ew, rw'⟩ := atI_rep r e
        exact ix_tup value slice pins s σ H _ _ v u Q I rx ry ⟨a, vs, i, w, rfl, rfl, sq, ew, h _ H (Same.refl H) ⟨rw', fun z => Bool.noConfusion z⟩⟩ hs
    | _ => exact False.elim h
  | _ => exact False.elim h
def rSlP (K : PySem.W.Frag) : V → Option Int → Option Int → Hp → VK → Prop := fun x lo hi H Q => ∃ p G, FT G H ∧ RepI K G H p x ∧ ∃ W : XW, RP W (sliceV p lo hi) fun z => ∀ v H', Same H H' → RepR K G H H' true z v → Q v H'
theorem reps_cut {K : PySem.W.Frag} {G : Addr → Prop} {H : Hp} {ps : List PyData} {vs : List V} {lo hi : Option Int} (r : Reps K G H ps vs) : Reps K G H (cutP ps lo hi) (cutV vs lo hi) := by
  unfold cutP cutV
  rw [r.length]
  exact (r.drop _).take _
theorem sl_all : SlR X (rSlP X.K) := by
  intro pins s σ H x v vl vu lo hi sl Q I rx hs pl pu h
  obtain ⟨p, G, ft, rp, W, h⟩ := h
  cases p with
  | list xs =>
    obtain ⟨a, vs, rfl, sq, r⟩ := rp
    exact sl_list pins s σ H _ v vl vu lo hi sl Q I rx hs pl pu ⟨a, vs, rfl, sq, fun p hp => h _ _ (upd_same_grow hp) (new_list hp ft (reps_cut r))⟩
  | tuple xs =>
    unfold RepI Rep at rp
    obtain ⟨a, vs, rfl, sq, r⟩ := rp
    refine sl_tupA pins s σ H _ v vl vu lo hi sl Q I rx hs pl pu ⟨a, vs, rfl, sq, fun c => ?_, fun c p hp => h _ _ (upd_same_grow hp) (new_tup hp ft (reps_cut r))⟩
    refine h _ H (Same.refl H) (repR_of ?_ rfl)
    have e : cutP xs lo hi = xs := by
      unfold cutP
      rw [r.length] at c
      rw [c.1, c.2]
      simp
    rw [e]
    unfold Rep
    exact ⟨a, vs, rfl, sq, r⟩
  | _ => exact False.elim h
end
end L2.Pu
namespace L2.Pu
open PySem PySem.Spec PyProof.Rows
/-! ### what is known of a def's text and of the program around it -/
structure FnI where
  ps : List Str
  ds : List PyData
  fr : Bool
structure Tb where
  N : List Str
  scope : Scope
  fnb : Str → Bool
  fns : List (Str × (Nat × FnI))
  glb : List (Str × PyData)
  blts : List Str
  cls : List Str
  exs : List Str
  cm : Bool
  tp : Bool
  ln : Bool := false
  mv : Bool := false
  fl : Bool := false
  dn : List Str := []
  tn : List Str := []
  fnr : List (Str × (Nat × FnI)) := []
  fnv : List (Str × (Nat × FnI)) := []
  wv : Option (Nat × Nat × Nat) := none
  ht : Bool := false
  fnh : List (Str × (Nat × FnI)) := []
  kp : Bool := false
/-! ### exceptions -/
/-- c, as, and what stands for it -/
def XRel (K : PySem.W.Frag) (c : Str) (as : List PyData) (cls : Value) (d : Option Addr) : Prop := as = [] ∧ d = none ∧ cls = .ref (He.ga K c) ∧ exOk K c = true
def EKc (K : PySem.W.Frag) (W : XW) : XK := fun cls d _ => ∃ c as, W c as ∧ XRel K c as cls d
def EOc (K : PySem.W.Frag) (c : Str) (as : List PyData) (H : Hp) (E : XK) : Prop := ∀ cls d H', Same H H' → XRel K c as cls d → E cls d H'
/-- behind a call that let an exception out: what was there stays -/
def CX1 (P : Program) (w : World) : CXT := fun outer H s E u s' => L2N.CX P w outer H s (fun cls d H' => E cls d H' ∧ Same H H') u s'
structure Xsys where
  lvl : Nat
  B : Hp
  P : Addr → Prop
def Xsys.kb (Y : Xsys) (K : PySem.W.Frag) : KB := ⟨K, Y.B, Y.P⟩
/-- what a def promises: the value that ev gives -/
def spF (K : PySem.W.Frag) (fr : Bool) (ev : List PyData → R PyData) (m : Nat) : Sp := fun vs H Q E => vs.length = m ∧ ∃ (F : Addr → Prop) (ps : List PyData), FT F H ∧ Reps K F H ps vs ∧
  RP (fun c as => EOc K c as H E) (ev ps) fun p => ∀ v H', Same H H' → RepR K F H H' fr p v → Q v H'
/-- what a def promises that changes the dict that it is lent -/
def spR (K : PySem.W.Frag) (ev : List PyData → R PyData) (m : Nat) : Sp := fun vs H Q _ => vs.length = m ∧ ∃ (F : Addr → Prop) (ks : List (PyData × PyData)) (ps : List PyData) (a : Addr) (o : HO) (vs' : List V), vs = .ref a :: vs' ∧ dkO ks = some o ∧ (unD ks).isSome = true ∧ isM ks = false ∧ H a = some o ∧ FT F H ∧ ¬ F a ∧
  Reps K (fun b => F b ∨ b = a) H ps vs' ∧ RP (fun _ _ => False) (ev (.dict ks :: ps)) fun p => ∀ ks' o' H', p = .dict ks' → isM ks' = false → dkO ks' = some o' → (∀ b ob, b ≠ a → H b = some ob → H' b = some ob) → H' a = some o' → Q .non H'
/-- what a def promises that changes the dict that it is lent behind its first value, and tells a value -/
def spV (K : PySem.W.Frag) (ev : List PyData → R PyData) (m : Nat) : Sp := fun vs H Q _ => vs.length = m ∧ ∃ (F : Addr → Prop) (ks : List (PyData × PyData)) (p0 : PyData) (ps : List PyData) (a : Addr) (o : HO) (v0 : V) (vs' : List V), vs = v0 :: .ref a :: vs' ∧ dkO ks = some o ∧ (unD ks).isSome = true ∧ isM ks = false ∧ H a = some o ∧ FT F H ∧ ¬ F a ∧
  Rep K (fun b => F b ∨ b = a) H p0 v0 ∧ Reps K (fun b => F b ∨ b = a) H ps vs' ∧ RP (fun _ _ => False) (ev (p0 :: .dict ks :: ps)) fun p => ∀ ks' o' q v H', p = .tuple [.dict ks', q] → isM ks' = false → dkO ks' = some o' → noList q = true → (∀ b ob, b ≠ a → H b = some ob → H' b = some ob) → H' a = some o' → Rep K (fun _ => False) H' q v → Q v H'
/-! ### it as it stands in the heap -/
def wF (W : Wv) (c t h : Addr) (vp : V) : List (Str × V) := [("wires", .int W.ws), ("marked", .int W.mkd), ("first_hidden", .int W.fh), ("carried", .ref c), ("phase", vp), ("made_ties", .ref t), ("hidden_bits", .ref h), ("marks_read", .int W.rd)]
structure WAt (K : PySem.W.Frag) (C : Addr) (H0 H : Hp) (x : Addr) (W : Wv) (dx c t h : Addr) (vp : V) : Prop where
  same : Same H0 H
  x0 : H0 x = none
  nl : noList W.ph = true
  c0 : H0 c = none
  t0 : H0 t = none
  h0 : H0 h = none
  ct : c ≠ t
  ch : c ≠ h
  th : t ≠ h
  ob : H x = some (.ins C dx (wF W c t h vp))
  lc : H c = some (.lst (W.car.map V.int))
  lt : H t = some (.lst (W.tis.map V.int))
  lh : H h = some (.lst (W.hid.map V.int))
  ph : Rep K (fun _ => False) H W.ph vp
def WOk (K : PySem.W.Frag) (C : Addr) (H0 H : Hp) (x : Addr) (W : Wv) : Prop := ∃ (dx c t h : Addr) (vp : V), WAt K C H0 H x W dx c t h vp
/-! ### what is promised -/
section
variable (K : PySem.W.Frag) (C : Addr)
def spI : Sp := fun vs H Q _ => ∃ (H0 : Hp) (x dx : Addr) (w l : Int) (W : Wv), vs = [.ref x, .int w, .int l] ∧ Same H0 H ∧ H0 x = none ∧ H x = some (.ins C dx []) ∧ w0 w l = .ok W ∧ ∀ H', WOk K C H0 H' x W → Q .non H'
def spRow (g : PyData → Wv → R Wv) : Sp := fun vs H Q _ => ∃ (H0 : Hp) (x : Addr) (row : PyData) (v : V) (W W' : Wv), vs = [.ref x, v] ∧ noList row = true ∧ Rep K (fun _ => False) H row v ∧ WOk K C H0 H x W ∧ g row W = .ok W' ∧ ∀ H', WOk K C H0 H' x W' → Q .non H'
def spEnd (g : Wv → R PyData) : Sp := fun vs H Q _ => ∃ (H0 : Hp) (x : Addr) (W : Wv) (p : PyData), vs = [.ref x] ∧ WOk K C H0 H x W ∧ g W = .ok p ∧ ∀ v H', Same H0 H' → noList p = true → Rep K (fun _ => False) H' p v → Q v H'
end
/-- a def of the program, as a method calls it -/
structure FnAt (pr : Program) (w : World) (K : PySem.W.Frag) (mg : Str → Option Value) (base : Heap) (lvl : Nat) (x : Str) (ps : List Str) (ev : PF) (f : Addr) (fd : FuncData) : Prop where
  at_ : mg x = some (.ref f)
  kp : PySem.W.keepIn K (.ref f) = true
  ok : FnOk pr w K mg base (CX1 pr w) lvl f fd ps (spF K false ev ps.length)
  bd : Binds K fd ps []
/-- the class, as the top has made it -/
structure WCls (K : PySem.W.Frag) (mg : Str → Option Value) (C : Addr) : Prop where
  mgC : mg "Weaving" = some (.ref C)
  cl : Cls K C
  n1 : NoAttr K C "wires"
  n2 : NoAttr K C "marked"
  n3 : NoAttr K C "first_hidden"
  n4 : NoAttr K C "carried"
  n5 : NoAttr K C "phase"
  n6 : NoAttr K C "made_ties"
  n7 : NoAttr K C "hidden_bits"
  n8 : NoAttr K C "marks_read"
  len : mg "len" = none
  range : mg "range" = none
  tuple : mg "tuple" = none
/-- what the class Weaving promises -/
def WvOk (pr : Program) (w : World) (K : PySem.W.Frag) (mg : Str → Option Value) (base : Heap) (lvl : Nat) (sg ad ts : PF) : Prop := ∃ (C fI fT fE : Addr) (fdI fdT fdE : FuncData), WCls K mg C ∧ Mk K C fI ∧
  FnOk pr w K mg base (CX1 pr w) (lvl + 1) fI fdI ["self", "wires", "looks"] (spI K C) ∧ Binds K fdI ["self", "wires", "looks"] [] ∧
  Meth K C "take" fT ∧ FnOk pr w K mg base (CX1 pr w) (lvl + 2) fT fdT ["self", "row"] (spRow K C (takeW sg ad)) ∧ Binds K fdT ["self", "row"] [] ∧
  Meth K C "ended" fE ∧ FnOk pr w K mg base (CX1 pr w) (lvl + 1) fE fdE ["self"] (spEnd K C (endW ts)) ∧ Binds K fdE ["self"] []
/-- what a def promises that is called while an exception is handled, which is held as a value -/
structure FnT (P : Program) (w : World) (K : PySem.W.Frag) (mg : Str → Option Value) (base : Heap) (CX : CXT) (k : Nat) (f : Addr) (fd : FuncData) (ps : List Str) (sp : Sp) : Prop where
  len : ∀ vs H Q E, sp vs H Q E → vs.length = ps.length
  run : ∀ (A : Around) (outer : List Env) (s : Shared) (H : Hp) (args : Args) (us : List Value) (vs : List V) (Q : VK) (E : XK) (a : Addr) (cls : Value), L2H.RoomH k A → A.handled = some (.ref a) → H a = some (ExH cls a) → Env0 P w K mg base A outer s H → BindsTo s fd args (ps.zip us) → Vals vs us → sp vs H Q E → codeAny (model P w) A (.call (.ref f) args) (CR CX outer P w H s Q E) s
structure CxOk (Y : Xsys) (W : XW) (T : Tb) (Φ : Nat → List PyData → R PyData) (X : Cx) : Prop where
  N : X.N = T.N
  nd : T.N.Nodup
  sc : X.env.scope = T.scope
  fnb : ∀ x, T.fnb x = true → X.fn x = true
  calm : T.cm = true → X.calm = true
  room : T.cm = true → Room Y.lvl X.A
  roomW : T.cm = true → Room (Y.lvl + 2) X.A
  wv : ∀ q, T.wv = some q → WvOk X.prog X.w X.K X.mg X.base Y.lvl (Φ q.1) (Φ q.2.1) (Φ q.2.2)
  units : X.A.units + 64 < cLine
  unitsM : X.A.units + 65 < cLine
  pass : ∀ (pins : List (Addr × Obj)) (σ : L2.St) (H : Hp) (s : Shared) (e : Value) (s' : Shared), Same Y.B H → Inv X pins σ H s → CX1 X.prog X.w X.stack H s (EKc X.K W) e s' → X.xe e s'
  tk : T.tp = true → L2N.Takes X (fun cls d _ H => Same Y.B H ∧ EKc X.K W cls d H)
  stk : T.tp = true → X.stack = X.env :: X.outer ∧ X.env.frame = some X.env.locals
  own : PassesOwn (model X.prog X.w) X.A X.env X.xe
  fns : ∀ x n I, T.fns.lookup x = some (n, I) → ∃ f fd, X.mg x = some (.ref f) ∧ PySem.W.keepIn X.K (.ref f) = true ∧ FnOk X.prog X.w X.K X.mg X.base (CX1 X.prog X.w) Y.lvl f fd I.ps (spF X.K I.fr (Φ n) I.ps.length) ∧
    ∀ j, j ≤ I.ds.length → ∃ ds dvs, Binds X.K fd I.ps ds ∧ Vals dvs ds ∧ ∀ F H, Reps X.K F H (I.ds.drop j) dvs
  fnr : ∀ x n I, T.fnr.lookup x = some (n, I) → ∃ f fd, X.mg x = some (.ref f) ∧ PySem.W.keepIn X.K (.ref f) = true ∧ FnOk X.prog X.w X.K X.mg X.base (CX1 X.prog X.w) Y.lvl f fd I.ps (spR X.K (Φ n) I.ps.length) ∧ Binds X.K fd I.ps []
  fnv : ∀ x n I, T.fnv.lookup x = some (n, I) → ∃ f fd, X.mg x = some (.ref f) ∧ PySem.W.keepIn X.K (.ref f) = true ∧ FnOk X.prog X.w X.K X.mg X.base (CX1 X.prog X.w) Y.lvl f fd I.ps (spV X.K (Φ n) I.ps.length) ∧ Binds X.K fd I.ps []
  hot : T.ht = true → ∃ a cls, X.A.handled = some (.ref a) ∧ Y.B a = some (ExH cls a)
  fnh : ∀ x n I, T.fnh.lookup x = some (n, I) → ∃ f fd, X.mg x = some (.ref f) ∧ PySem.W.keepIn X.K (.ref f) = true ∧ FnT X.prog X.w X.K X.mg X.base (CX1 X.prog X.w) Y.lvl f fd I.ps (spF X.K I.fr (Φ n) I.ps.length) ∧ Binds X.K fd I.ps []
  blt : ∀ x, x ∈ T.blts → X.mg x = none
  glb : ∀ x p, T.glb.lookup x = some p → ∃ u v, X.mg x = some u ∧ RelV v u ∧ ∀ F H, Rep X.K F H p v
  cls : ∀ d, d ∈ T.cls → X.mg d = some (.ref (He.ga X.K d)) ∧ clOk X.K d = true
  exs : ∀ c, c ∈ T.exs → X.mg c = some (.ref (He.ga X.K c)) ∧ exOk X.K c = true
  nk : T.tn ≠ [] → X.K.all noKey1 = true
theorem pass_no {X : Cx} {H : Hp} {s s' : Shared} {e : Value} (h : CX1 X.prog X.w X.stack H s (EKc X.K fun _ _ => False) e s') : False := by
  obtain ⟨_, _, _, _, _, _, _, _, _, _, _, _, ⟨c, as, z, _⟩, _⟩ := h
  exact z
theorem tk_no {X : Cx} {Y : Xsys} : L2N.Takes X (fun cls d _ H => Same Y.B H ∧ EKc X.K (fun _ _ => False) cls d H) := fun u s' x => by
  obtain ⟨_, _, _, _, _, _, _, _, _, _, _, _, _, _, _, _, _, c, as, z, _⟩ := x
  exact z.elim
def visB (sc : Scope) (x : Str) : Bool := match sc.names.lookup x with
  | some .local => true
  | some .cell => true
  | some .free => true
  | _ => false
theorem visB_ok {sc : Scope} {x : Str} (h : visB sc x = true) : Vis sc x := by
  unfold visB at h
  unfold Vis
  cases e : sc.names.lookup x with
  | none => rw [e] at h; cases h
  | some k =>
    rw [e] at h
    cases k <;> first | exact .inl rfl | exact .inr (.inl rfl) | exact .inr (.inr rfl) | cases h
def gloB (sc : Scope) (x : Str) : Bool := match sc.names.lookup x with
  | some .globalImplicit => true
  | _ => false
theorem gloB_ok {Y : Xsys} {W : XW} {T : Tb} {Φ : Nat → List PyData → R PyData} {X : Cx} (ok : CxOk Y W T Φ X) {x : Str} (h : gloB T.scope x = true) : Gl X x := by
  unfold gloB at h
  unfold Gl Env.kindOf
  rw [ok.sc]
  cases e : T.scope.names.lookup x with
  | none => rw [e] at h; cases h
  | some k =>
    rw [e] at h
    cases k <;> first | rfl | cases h
def nameB (x : Str) : Bool := !(x == ("__debug__" : Str)) && !(x == ("__classdict__" : Str)) && decide (x ≠ "__name__")
theorem nameB_ok {x : Str} (h : nameB x = true) : (x == ("__debug__" : Str)) = false ∧ (x == ("__classdict__" : Str)) = false ∧ x ≠ "__name__" := by
  unfold nameB at h
  rw [Bool.and_eq_true, Bool.and_eq_true, Bool.not_eq_true', Bool.not_eq_true'] at h
  exact ⟨h.1.1, h.1.2, of_decide_eq_true h.2⟩
/-- an expression without a form of its own -/
def plainE : Expr → Bool
  | .Slice _ _ _ _ => false
  | .Starred _ _ => false
  | .Set _ _ _ => false
  | .NamedExpr _ _ _ => false
  | _ => true
theorem plainE_ix {e : Expr} (h : plainE e = true) : PlainIx e := by
  intro o i
  cases e <;> first | rfl | cases h
theorem plainE_star {e : Expr} (h : plainE e = true) (es : List Expr) (env : Env) : starEach (e :: es) env = (false, eval e env) :: starEach es env := by
  cases e <;> first | rfl | cases h
theorem plainE_mark {e : Expr} (h : plainE e = true) (op : CmpOp) : behindInMarks op e = false := by
  cases e <;> first | rfl | cases h
theorem plainEs_star : ∀ {es : List Expr} (pos : Pos) (env : Env), es.all plainE = true → (backTo pos (starEach es env)).any (·.1) = false
  | [], pos, env, _ => rfl
  | e :: es, pos, env, h => by
    rw [List.all_cons, Bool.and_eq_true] at h
    rw [plainE_star h.1]
    have ih := plainEs_star (es := es) pos env h.2
    unfold backTo at ih ⊢
    simpa using ih
/-! ### the judgements -/
def SE (T : Tb) (e : Expr) (i : E) : Prop := plainE e = true ∧ ∀ (Y : Xsys) (W : XW) (Φ : Nat → List PyData → R PyData) (X : Cx), CxOk Y W T Φ X → PE X e (rd (Y.kb X.K) W (evE Φ i) (lk i) (lkI i) (fresh i))
def ST (T : Tb) (e : Expr) (i : E) : Prop := ∀ (Y : Xsys) (W : XW) (Φ : Nat → List PyData → R PyData) (X : Cx), CxOk Y W T Φ X → PT X e (rdT (Y.kb X.K) W fun ρ => (evE Φ i ρ).bind boolV)
def SA (T : Tb) (es : List Expr) (is : List E) : Prop := es.all plainE = true ∧ ∀ (Y : Xsys) (W : XW) (Φ : Nat → List PyData → R PyData) (X : Cx), CxOk Y W T Φ X → PA X es (rdA (Y.kb X.K) W (evEs Φ is) (lks is))
def SO (T : Tb) (e : Option Expr) (i : Option E) : Prop := ∀ (Y : Xsys) (W : XW) (Φ : Nat → List PyData → R PyData) (X : Cx), CxOk Y W T Φ X → PO X e (fun σ H Q => ∃ ρ F H0, EnvRep (Y.kb X.K) F H0 H σ ρ ∧ RP W (evO Φ i ρ) fun o => ∀ H', Same H H' → Q o H')
theorem RepI.sub {K : PySem.W.Frag} {G G' : Addr → Prop} {H : Hp} (s : ∀ a, G' a → G a) {p : PyData} {v : V} (h : RepI K G H p v) : RepI K G' H p v := by
  cases p with
  | list ps =>
    obtain ⟨a, vs, e, sq, r⟩ := h
    exact ⟨a, vs, e, sq, r.sub s⟩
  | dict ks => exact h
  | _ => exact Rep.sub s _ _ h
theorem RepI.same {K : PySem.W.Frag} {G : Addr → Prop} {H H' : Hp} (ft : FT G H) (s : Same H H') {p : PyData} {v : V} (h : RepI K G H p v) : RepI K G H' p v := by
  cases p with
  | list ps =>
    obtain ⟨a, vs, e, sq, r⟩ := h
    exact ⟨a, vs, e, s.seq sq, r.same ft s⟩
  | dict ks => exact Rep.grow s _ _ (show Rep K (fun _ => False) H (.dict ks) v from h)
  | _ => exact Rep.same ft s h
theorem RepR.sub {K : PySem.W.Frag} {G G' : Addr → Prop} {H H1 H' : Hp} {fr : Bool} {p : PyData} {v : V} (h : RepR K G H1 H' fr p v) (s : ∀ a, G' a → G a) (sm : Same H H1) : RepR K G' H H' fr p v :=
  ⟨Rep.sub s _ _ h.1, fun e ps ep => let ⟨a, vs, e1, e2, e3, e4⟩ := h.2 e ps ep; ⟨a, vs, e1, sm.free e2, e3, Reps.sub (fun b z => z.elim (fun q => .inl (s b q)) .inr) _ _ e4⟩⟩
theorem repR_no {K : PySem.W.Frag} {G G' : Addr → Prop} {H H1 H' : Hp} {fr : Bool} {p : PyData} {v : V} (h : RepR K G H1 H' fr p v) (s : ∀ a, G' a → G a) : RepR K G' H H' false p v :=
  ⟨Rep.sub s _ _ h.1, fun z => Bool.noConfusion z⟩
mutual
theorem rep_noList {K : PySem.W.Frag} {G G' : Addr → Prop} {H : Hp} : ∀ (p : PyData) (v : V), noList p = true → Rep K G H p v → Rep K G' H p v
  | .none, _, _, h => h
  | .bool _, _, _, h => h
  | .int _, _, _, h => h
  | .str _, _, _, h => h
  | .list _, _, n, _ => by unfold noList at n; cases n
  | .tuple ps, v, n, h => by
    unfold noList at n
    unfold Rep at h ⊢
    obtain ⟨a, vs, ev, sq, r⟩ := h
    exact ⟨a, vs, ev, sq, reps_noList ps vs n r⟩
  | .dict _, _, n, _ => by unfold noList at n; cases n
theorem reps_noList {K : PySem.W.Frag} {G G' : Addr → Prop} {H : Hp} : ∀ (ps : List PyData) (vs : List V), noLists ps = true → Reps K G H ps vs → Reps K G' H ps vs
  | [], [], _, _ => by unfold Reps; trivial
  | p :: ps, v :: vs, n, h => by
    unfold noLists at n
    rw [Bool.and_eq_true] at n
    unfold Reps at h ⊢
    exact ⟨rep_noList p v n.1 h.1, reps_noList ps vs n.2 h.2⟩
  | [], _ :: _, _, h => by unfold Reps at h; exact h.elim
  | _ :: _, [], _, h => by unfold Reps at h; exact h.elim
end
def boolP : PyData → Bool
  | .bool _ => true
  | _ => false
theorem rep_boolP {K : PySem.W.Frag} {G G' : Addr → Prop} {H : Hp} {p : PyData} {v : V} (b : boolP p = true) (h : Rep K G H p v) : Rep K G' H p v := by
  cases p with
  | bool _ => exact h
  | _ => cases b
theorem FX.l {F : Addr → Prop} {L L' : List Nat} {σ : L2.St} {ρ : PEnv} : ∀ a, FX F (L ++ L') σ ρ a → FX F L σ ρ a := FX.mono fun _ h => List.mem_append_left _ h
theorem FX.r {F : Addr → Prop} {L L' : List Nat} {σ : L2.St} {ρ : PEnv} : ∀ a, FX F (L ++ L') σ ρ a → FX F L' σ ρ a := FX.mono fun _ h => List.mem_append_right _ h
theorem bind_assoc {α β γ : Type} (r : R α) (f : α → R β) (g : β → R γ) : (r.bind f).bind g = r.bind fun a => (f a).bind g := by
  cases r <;> rfl
theorem lkI_lk : ∀ (e : E) (i : Nat), i ∈ lkI e → i ∈ lk e := fun e i h => by
  cases e <;> first | (unfold lkI at h; unfold lk; exact h) | (unfold lkI at h; cases h)
section
variable {T : Tb} {x : Str} {pos p2 : Pos} {a b c e : Expr} {es : List Expr} {ia ib ic ie : E} {is : List E}
theorem se_var {i : Nat} (hN : T.N[i]? = some x) (hv : visB T.scope x = true) (hn : nameB x = true) : SE T (.Name x pos) (.var i) := by
  refine ⟨rfl, fun Y W Φ X ok => ?_⟩
  obtain ⟨n1, n2, _⟩ := nameB_ok hn
  refine PE.imp (pe_var (by rw [ok.N]; exact hN) (by rw [ok.sc]; exact visB_ok hv) n1 n2) fun σ H Q ⟨ρ, F, H0, er, h⟩ => ?_
  unfold evE at h
  cases e : ρ[i]? with
  | none => rw [e] at h; exact False.elim h
  | some sl =>
    cases sl with
    | none => rw [e] at h; exact False.elim h
    | some bp =>
      obtain ⟨bb, p⟩ := bp
      rw [e] at h
      have h : ∀ v H', Same H H' → RepR X.K (FX F [i] σ ρ) H H' false p v → RepI X.K (FX F [] σ ρ) H' p v → Q v H' := h
      cases bb with
      | false =>
        obtain ⟨v, e1, r⟩ := er.val i p e
        exact ⟨v, e1, h v H (Same.refl H) ⟨Rep.sub (FX.mono fun _ z => by cases z) _ _ r, fun z => Bool.noConfusion z⟩ (.of r)⟩
      | true =>
        obtain ⟨ad, e1, e3, e4, ow⟩ := er.ow i p e
        refine ⟨_, e1, h _ H (Same.refl H) ⟨ow.rep (fun z => ?_) (FX.mono fun _ z => by cases z), fun z => Bool.noConfusion z⟩ ?_⟩
        · rcases z with z | ⟨j, q, hj, e5, e6⟩
          · exact e3 z
          · exact hj (by rw [er.inj j i _ _ ad e5 e e6 e1]; exact List.mem_singleton.mpr rfl)
        · cases p with
          | list ps =>
            obtain ⟨vs, e2, r⟩ := ow
            exact ⟨ad, vs, rfl, .inl (.inl e2), r⟩
          | dict ks => exact (ow.rep (G' := fun _ => False) (fun z => z) (fun _ z => z.elim) : Rep X.K (fun _ => False) H (.dict ks) (.ref ad))
          | _ => exact ow.elim
theorem se_const {p : PyData} {v : V} {cst : Const} {k : Nat} (hp : ∀ X : Cx, PE X (.Constant cst k pos) (tC v)) (hr : ∀ (K : PySem.W.Frag) F H, Rep K F H p v) (hl : isListP p = false) : SE T (.Constant cst k pos) (.cst p) := by
  refine ⟨rfl, fun Y W Φ X ok => PE.imp (hp X) fun σ H Q ⟨ρ, F, H0, er, h⟩ => ?_⟩
  unfold evE at h
  exact h v H (Same.refl H) (repR_of (hr _ _ _) hl) (.of (hr _ _ _))
theorem se_int {i : Int} {k : Nat} : SE T (.Constant (.int i) k pos) (.cst (.int i)) := se_const (fun _ => pe_int) (fun _ _ _ => rep_int) rfl
theorem se_bool {i : Bool} {k : Nat} : SE T (.Constant (.bool i) k pos) (.cst (.bool i)) := se_const (fun _ => pe_bl) (fun _ _ _ => rep_bool) rfl
theorem se_none {k : Nat} : SE T (.Constant .none k pos) (.cst .none) := se_const (fun _ => pe_non) (fun _ _ _ => by unfold Rep; rfl) rfl
theorem se_str {s : Str} {k : Nat} : SE T (.Constant (.str s) k pos) (.cst (.str s)) := se_const (fun _ => pe_str) (fun _ _ _ => by unfold Rep; rfl) rfl
theorem se_glob {p : PyData} (hg : gloB T.scope x = true) (hn : nameB x = true) (hl : T.glb.lookup x = some p) (nl : isListP p = false) : SE T (.Name x pos) (.cst p) := by
  refine ⟨rfl, fun Y W Φ X ok => ?_⟩
  obtain ⟨n1, n2, _⟩ := nameB_ok hn
  obtain ⟨u, v, hm, rv, hr⟩ := ok.glb x p hl
  refine PE.imp (pe_glob (gloB_ok ok hg) hm rv n1) fun σ H Q ⟨ρ, F, H0, er, h⟩ => ?_
  unfold evE at h
  exact h v H (Same.refl H) (repR_of (hr _ _) nl) (.of (hr _ _))
theorem se_bin (o : Op) (ha : SE T a ia) (hb : SE T b ib) : SE T (.BinOp a (opA o) b pos) (.bin o ia ib) := by
  refine ⟨rfl, fun Y W Φ X ok => PE.imp (pe_op (op_all o) (ha.2 Y W Φ X ok) (hb.2 Y W Φ X ok)) fun σ H Q ⟨ρ, F, H0, er, h⟩ => ?_⟩
  unfold evE at h
  refine ⟨ρ, F, H0, er, (RP.bind h).mono fun x hx v1 H1 s1 r1 i1 => ?_⟩
  have er1 := er.grow s1
  refine ⟨ρ, F, H0, er1, (RP.bind hx).mono fun y hy v2 H2 s2 r2 i2 => ?_⟩
  refine ⟨x, y, FX F (lkI ia ++ lkI ib) σ ρ, (er1.grow s2).ftX _, (i1.same (er1.ftX _) s2).sub FX.l, i2.sub FX.r, W, hy.mono fun z hz v3 H3 s3 r3 => ?_⟩
  exact hz v3 H3 (s1.trans (s2.trans s3)) (r3.sub (fun _ q => q) (s1.trans s2)) (.of r3.1)
theorem se_neg (ha : SE T a ia) : SE T (.UnaryOp .USub a pos) (.neg ia) := by
  refine ⟨rfl, fun Y W Φ X ok => PE.imp (pe_un un_neg (ha.2 Y W Φ X ok)) fun σ H Q ⟨ρ, F, H0, er, h⟩ => ?_⟩
  unfold evE at h
  refine ⟨ρ, F, H0, er, (RP.bind h).mono fun x hx v1 H1 s1 r1 i1 => ?_⟩
  cases x with
  | int i =>
    have e := two_int i1
    exact ⟨i, e, hx _ H1 s1 (repR_of rep_int rfl) (.of rep_int)⟩
  | _ => exact False.elim hx
theorem boolV_ok {W : XW} {p : PyData} {P : Bool → Prop} (h : RP W (boolV p) P) : ∃ b, p = .bool b ∧ P b := by
  cases p with
  | bool b => exact ⟨b, rfl, h⟩
  | _ => exact False.elim h
theorem repI_bool {K : PySem.W.Frag} {G : Addr → Prop} {H : Hp} {i : Bool} {x : V} (h : RepI K G H (.bool i) x) : x = .bl i := by
  unfold RepI Rep at h; exact h
theorem se_not (ha : SE T a ia) : SE T (.UnaryOp .Not a pos) (.nt ia) := by
  refine ⟨rfl, fun Y W Φ X ok => PE.imp (pe_not (ha.2 Y W Φ X ok)) fun σ H Q ⟨ρ, F, H0, er, h⟩ => ?_⟩
  unfold evE at h
  refine ⟨ρ, F, H0, er, (RP.bind h).mono fun x hx v1 H1 s1 r1 i1 => ?_⟩
  cases x with
  | bool i =>
    have e := repI_bool i1
    exact ⟨i, e, hx _ H1 s1 (repR_of rep_bool rfl) (.of rep_bool)⟩
  | _ => exact False.elim hx
theorem se_one {op : BoolOp} (ha : SE T a ia) : SE T (.BoolOp op [a] pos) ia := ⟨rfl, fun Y W Φ X ok => pe_one (ha.2 Y W Φ X ok)⟩
theorem se_conj {rest : List Expr} (ha : SE T a ia) (hb : SE T (.BoolOp .And (b :: rest) pos) ib) : SE T (.BoolOp .And (a :: b :: rest) pos) (.conj ia ib) := by
  refine ⟨rfl, fun Y W Φ X ok => PE.imp (pe_and (ha.2 Y W Φ X ok) (hb.2 Y W Φ X ok)) fun σ H Q ⟨ρ, F, H0, er, h⟩ => ?_⟩
  unfold evE at h
  refine ⟨ρ, F, H0, er, (RP.bind h).mono fun x hx v1 H1 s1 r1 i1 => ?_⟩
  obtain ⟨c, rfl, hx⟩ := boolV_ok (RP.bind hx)
  refine ⟨c, repI_bool i1, ?_⟩
  cases c with
  | true => exact ⟨ρ, F, H0, er.grow s1, RP.mono hx fun y hy v2 H2 s2 r2 i2 => hy v2 H2 (s1.trans s2) (repR_no r2 FX.r) (i2.sub (FX.mono fun i z => List.mem_append_right _ (lkI_lk _ _ z)))⟩
  | false => exact hx _ H1 s1 (repR_of rep_bool rfl) (.of rep_bool)
theorem se_disj {rest : List Expr} (ha : SE T a ia) (hb : SE T (.BoolOp .Or (b :: rest) pos) ib) : SE T (.BoolOp .Or (a :: b :: rest) pos) (.disj ia ib) := by
  refine ⟨rfl, fun Y W Φ X ok => PE.imp (pe_or (ha.2 Y W Φ X ok) (hb.2 Y W Φ X ok)) fun σ H Q ⟨ρ, F, H0, er, h⟩ => ?_⟩
  unfold evE at h
  refine ⟨ρ, F, H0, er, (RP.bind h).mono fun x hx v1 H1 s1 r1 i1 => ?_⟩
  obtain ⟨c, rfl, hx⟩ := boolV_ok (RP.bind hx)
  refine ⟨c, repI_bool i1, ?_⟩
  cases c with
  | false => exact ⟨ρ, F, H0, er.grow s1, RP.mono hx fun y hy v2 H2 s2 r2 i2 => hy v2 H2 (s1.trans s2) (repR_no r2 FX.r) (i2.sub (FX.mono fun i z => List.mem_append_right _ (lkI_lk _ _ z)))⟩
  | true => exact hx _ H1 s1 (repR_of rep_bool rfl) (.of rep_bool)
theorem se_ife (hc : ST T c ic) (ha : SE T a ia) (hb : SE T b ib) : SE T (.IfExp c a b pos) (.ife ic ia ib) := by
  refine ⟨rfl, fun Y W Φ X ok => PE.imp (pe_ifExp (hc Y W Φ X ok) (ha.2 Y W Φ X ok) (hb.2 Y W Φ X ok)) fun σ H Q ⟨ρ, F, H0, er, h⟩ => ?_⟩
  unfold evE at h
  rw [← bind_assoc] at h
  refine ⟨ρ, F, H0, er, (RP.bind h).mono fun k hk H1 s1 => ?_⟩
  cases k with
  | true => exact ⟨ρ, F, H0, er.grow s1, RP.mono hk fun y hy v2 H2 s2 r2 i2 => hy v2 H2 (s1.trans s2) (repR_no r2 FX.l) (i2.sub (FX.mono fun i z => List.mem_append_left _ (lkI_lk _ _ z)))⟩
  | false => exact ⟨ρ, F, H0, er.grow s1, RP.mono hk fun y hy v2 H2 s2 r2 i2 => hy v2 H2 (s1.trans s2) (repR_no r2 FX.r) (i2.sub (FX.mono fun i z => List.mem_append_right _ (lkI_lk _ _ z)))⟩
theorem cmV_bool {W : XW} {o : Cm} {x y : PyData} {P : PyData → Prop} (h : RP W (cmV o x y) P) : RP W (cmV o x y) fun z => boolP z = true ∧ P z := by
  have two : ∀ {r : R Bool} {g : Bool → Bool}, RP W (r.bind fun b => okB (g b)) P → RP W (r.bind fun b => okB (g b)) fun z => boolP z = true ∧ P z := fun {r g} h => by
    cases r with
    | ok b => exact ⟨rfl, h⟩
    | ex c as => exact h
    | bad => exact h
  have cmp : ∀ o : Cm, RP W (match x, y with | .int i, .int j => cmI o i j | _, _ => .bad) P → RP W (match x, y with | .int i, .int j => cmI o i j | _, _ => .bad) fun z => boolP z = true ∧ P z := fun o h => by
    cases x with
    | int i =>
      cases y with
      | int j =>
        have h : RP W (cmI o i j) P := h
        show RP W (cmI o i j) _
        unfold cmI at h ⊢
        cases o <;> first | exact ⟨rfl, h⟩ | exact False.elim h
      | _ => exact False.elim h
    | _ => exact False.elim h
  cases o with
  | eq => exact two (g := fun b => b) h
  | ne => exact two (g := fun b => !b) h
  | isn => exact ⟨rfl, h⟩
  | notn => exact ⟨rfl, h⟩
  | inn =>
    cases y with
    | list ys => exact two (g := fun b => b) h
    | tuple ys => exact two (g := fun b => b) h
    | str z =>
      cases x with
      | str w => exact ⟨rfl, h⟩
      | _ => exact False.elim h
    | _ => exact False.elim h
  | notin =>
    cases y with
    | list ys => exact two (g := fun b => !b) h
    | tuple ys => exact two (g := fun b => !b) h
    | str z =>
      cases x with
      | str w => exact ⟨rfl, h⟩
      | _ => exact False.elim h
    | _ => exact False.elim h
  | lt => exact cmp .lt h
  | le => exact cmp .le h
  | gt => exact cmp .gt h
  | ge => exact cmp .ge h
theorem cmp_read {Y : Xsys} {W : XW} {Φ : Nat → List PyData → R PyData} {X : Cx} {o : Cm} (ha : SE T a ia) (hb : SE T b ib) {σ : L2.St} {H : Hp} {Q : VK} {ρ : PEnv} {F : Addr → Prop} {H0 : Hp} (er : EnvRep (Y.kb X.K) F H0 H σ ρ)
    (h : RP W (evE Φ (.cmp o ia ib) ρ) fun p => ∀ v H', Same H H' → boolP p = true → RepI X.K (fun _ => False) H' p v → Q v H') :
    tOp (r2P X.K false (cmV o)) (rd (Y.kb X.K) W (evE Φ ia) (lk ia) (lkI ia) (fresh ia)) (rd (Y.kb X.K) W (evE Φ ib) (lk ib) (lkI ib) (fresh ib)) σ H Q := by
  unfold evE at h
  refine ⟨ρ, F, H0, er, (RP.bind h).mono fun x hx v1 H1 s1 r1 i1 => ?_⟩
  have er1 := er.grow s1
  refine ⟨ρ, F, H0, er1, (RP.bind hx).mono fun y hy v2 H2 s2 r2 i2 => ?_⟩
  refine ⟨x, y, FX F (lkI ia ++ lkI ib) σ ρ, (er1.grow s2).ftX _, (i1.same (er1.ftX _) s2).sub FX.l, i2.sub FX.r, W, (cmV_bool hy).mono fun z hz v3 H3 s3 r3 => ?_⟩
  refine hz.2 v3 H3 (s1.trans (s2.trans s3)) hz.1 (.of ?_)
  exact rep_boolP hz.1 r3.1
theorem repI_boolP {K : PySem.W.Frag} {G G' : Addr → Prop} {H : Hp} {p : PyData} {v : V} (b : boolP p = true) (h : RepI K G H p v) : Rep K G' H p v := by
  cases p with
  | bool _ => exact h
  | _ => cases b
theorem boolP_list {p : PyData} (b : boolP p = true) : isListP p = false := by
  cases p <;> first | rfl | cases b
theorem se_cmp (o : Cm) (h1 : o ≠ .isn) (h2 : o ≠ .notn) (ha : SE T a ia) (hb : SE T b ib) : SE T (.Compare a [cmA o] [b] pos) (.cmp o ia ib) := by
  refine ⟨rfl, fun Y W Φ X ok => PE.imp (pe_cmpR (cm_all ok.unitsM o h1 h2) (ha.2 Y W Φ X ok) (hb.2 Y W Φ X ok) (plainE_mark hb.1 _)) fun σ H Q ⟨ρ, F, H0, er, h⟩ => ?_⟩
  exact cmp_read (Y := Y) ha hb er (h.mono fun z hz v H' s b i => hz v H' s (repR_of (repI_boolP b i) (boolP_list b)) (.of (repI_boolP b i)))
theorem chain_read {Y : Xsys} {W : XW} {Φ : Nat → List PyData → R PyData} {X : Cx} {o o' : Cm} {c : Expr} {ic : E} (ha : SE T a ia) (hb : SE T b ib) (hc : SE T c ic) {σ : L2.St} {H : Hp} {Q : VK} {ρ : PEnv} {F : Addr → Prop} {H0 : Hp} (er : EnvRep (Y.kb X.K) F H0 H σ ρ)
    (h : RP W (evE Φ (.chain o o' ia ib ic) ρ) fun p => ∀ v H', Same H H' → boolP p = true → RepI X.K (fun _ => False) H' p v → Q v H') :
    tChain (r2P X.K false (cmV o)) (r2P X.K false (cmV o')) (rd (Y.kb X.K) W (evE Φ ia) (lk ia) (lkI ia) (fresh ia)) (rd (Y.kb X.K) W (evE Φ ib) (lk ib) (lkI ib) (fresh ib)) (rd (Y.kb X.K) W (evE Φ ic) (lk ic) (lkI ic) (fresh ic)) σ H Q := by
  unfold evE at h
  refine ⟨ρ, F, H0, er, (RP.bind h).mono fun x hx v1 H1 s1 r1 i1 => ?_⟩
  have er1 := er.grow s1
  refine ⟨ρ, F, H0, er1, (RP.bind hx).mono fun y hy v2 H2 s2 r2 i2 => ?_⟩
  have er2 := er1.grow s2
  refine ⟨x, y, FX F (lkI ia ++ lkI ib) σ ρ, er2.ftX _, (i1.same (er1.ftX _) s2).sub FX.l, i2.sub FX.r, W, (cmV_bool (RP.bind hy)).mono fun z hz v3 H3 s3 r3 => ?_⟩
  obtain ⟨bz, hz⟩ := hz
  have rz := rep_boolP bz r3.1 (G' := fun _ => False)
  cases z with
  | bool k =>
    have e : v3 = .bl k := rz
    refine ⟨k, e, ?_⟩
    cases k with
    | false =>
      exact hz _ H3 (s1.trans (s2.trans s3)) rfl (.of rep_bool)
    | true =>
      have er3 := er2.grow s3
      have hz : RP W ((evE Φ ic ρ).bind fun u => cmV o' y u) fun p => ∀ v H', Same H H' → boolP p = true → RepI X.K (fun _ => False) H' p v → Q v H' := hz
      refine ⟨ρ, F, H0, er3, (RP.bind hz).mono fun u hu v4 H4 s4 r4 i4 => ?_⟩
      refine ⟨y, u, FX F (lkI ib ++ lkI ic) σ ρ, (er3.grow s4).ftX _, (i2.same (er2.ftX _) (s3.trans s4)).sub FX.l, i4.sub FX.r, W, (cmV_bool hu).mono fun q hq v5 H5 s5 r5 => ?_⟩
      exact hq.2 v5 H5 (s1.trans (s2.trans (s3.trans (s4.trans s5)))) hq.1 (.of (rep_boolP hq.1 r5.1))
  | _ => cases bz
theorem se_chain {c : Expr} {ic : E} (o o' : Cm) (h1 : o ≠ .isn) (h2 : o ≠ .notn) (h3 : o' ≠ .isn) (h4 : o' ≠ .notn) (ha : SE T a ia) (hb : SE T b ib) (hc : SE T c ic) : SE T (.Compare a [cmA o, cmA o'] [b, c] pos) (.chain o o' ia ib ic) := by
  refine ⟨rfl, fun Y W Φ X ok => PE.imp (pe_chain (cm_all ok.unitsM o h1 h2) (cm_all ok.unitsM o' h3 h4) (ha.2 Y W Φ X ok) (hb.2 Y W Φ X ok) (hc.2 Y W Φ X ok) (plainE_mark hc.1 _)) fun σ H Q ⟨ρ, F, H0, er, h⟩ => ?_⟩
  exact chain_read (Y := Y) ha hb hc er (h.mono fun z hz v H' s b i => hz v H' s (repR_of (repI_boolP b i) (boolP_list b)) (.of (repI_boolP b i)))
theorem st_chain {c : Expr} {ic : E} (o o' : Cm) (h1 : o ≠ .isn) (h2 : o ≠ .notn) (h3 : o' ≠ .isn) (h4 : o' ≠ .notn) (ha : SE T a ia) (hb : SE T b ib) (hc : SE T c ic) : ST T (.Compare a [cmA o, cmA o'] [b, c] pos) (.chain o o' ia ib ic) := by
  refine fun Y W Φ X ok => PT.imp (pt_chain (cm_all ok.unitsM o h1 h2) (cm_all ok.unitsM o' h3 h4) (ha.2 Y W Φ X ok) (hb.2 Y W Φ X ok) (hc.2 Y W Φ X ok) (plainE_mark hc.1 _)) fun σ H Q ⟨ρ, F, H0, er, h⟩ => ?_
  refine chain_read (Y := Y) ha hb hc er ((RP.bind h).mono fun z hz v H' s b i => ?_)
  obtain ⟨k, rfl, hz⟩ := boolV_ok hz
  exact ⟨k, repI_bool i, hz H' s⟩
theorem se_isn {k : Nat} (ha : SE T a ia) : SE T (.Compare a [.Is] [.Constant .none k p2] pos) (.cmp .isn ia (.cst .none)) := by
  refine ⟨rfl, fun Y W Φ X ok => PE.imp (pe_cmpR op_isN (ha.2 Y W Φ X ok) pe_non rfl) fun σ H Q ⟨ρ, F, H0, er, h⟩ => ?_⟩
  unfold evE at h
  refine ⟨ρ, F, H0, er, (RP.bind h).mono fun x hx v1 H1 s1 r1 i1 => ⟨rfl, ?_⟩⟩
  rw [isNone_v i1]
  unfold evE at hx
  exact hx _ H1 s1 (repR_of rep_bool rfl) (.of rep_bool)
theorem se_notn {k : Nat} (ha : SE T a ia) : SE T (.Compare a [.IsNot] [.Constant .none k p2] pos) (.cmp .notn ia (.cst .none)) := by
  refine ⟨rfl, fun Y W Φ X ok => PE.imp (pe_cmpR op_notN (ha.2 Y W Φ X ok) pe_non rfl) fun σ H Q ⟨ρ, F, H0, er, h⟩ => ?_⟩
  unfold evE at h
  refine ⟨ρ, F, H0, er, (RP.bind h).mono fun x hx v1 H1 s1 r1 i1 => ⟨rfl, ?_⟩⟩
  rw [isNone_v i1]
  unfold evE at hx
  exact hx _ H1 s1 (repR_of rep_bool rfl) (.of rep_bool)
/-! ### tests -/
theorem st_cmp (o : Cm) (h1 : o ≠ .isn) (h2 : o ≠ .notn) (ha : SE T a ia) (hb : SE T b ib) : ST T (.Compare a [cmA o] [b] pos) (.cmp o ia ib) := by
  refine fun Y W Φ X ok => PT.imp (pt_cmpR (cm_all ok.unitsM o h1 h2) (ha.2 Y W Φ X ok) (hb.2 Y W Φ X ok) (plainE_mark hb.1 _)) fun σ H Q ⟨ρ, F, H0, er, h⟩ => ?_
  refine cmp_read (Y := Y) ha hb er ((RP.bind h).mono fun z hz v H' s b i => ?_)
  obtain ⟨k, rfl, hz⟩ := boolV_ok hz
  exact ⟨k, repI_bool i, hz H' s⟩
theorem st_isn {k : Nat} (ha : SE T a ia) : ST T (.Compare a [.Is] [.Constant .none k p2] pos) (.cmp .isn ia (.cst .none)) := by
  refine fun Y W Φ X ok => PT.imp (pt_cmpR op_isN (ha.2 Y W Φ X ok) pe_non rfl) fun σ H Q ⟨ρ, F, H0, er, h⟩ => ?_
  have h := RP.bind h
  unfold evE at h
  refine ⟨ρ, F, H0, er, (RP.bind h).mono fun x hx v1 H1 s1 r1 i1 => ⟨rfl, isNone x, ?_, ?_⟩⟩
  · rw [isNone_v i1]
  · unfold evE at hx
    exact hx H1 s1
theorem st_notn {k : Nat} (ha : SE T a ia) : ST T (.Compare a [.IsNot] [.Constant .none k p2] pos) (.cmp .notn ia (.cst .none)) := by
  refine fun Y W Φ X ok => PT.imp (pt_cmpR op_notN (ha.2 Y W Φ X ok) pe_non rfl) fun σ H Q ⟨ρ, F, H0, er, h⟩ => ?_
  have h := RP.bind h
  unfold evE at h
  refine ⟨ρ, F, H0, er, (RP.bind h).mono fun x hx v1 H1 s1 r1 i1 => ⟨rfl, !isNone x, ?_, ?_⟩⟩
  · rw [isNone_v i1]
  · unfold evE at hx
    exact hx H1 s1
theorem st_not (ha : ST T a ia) : ST T (.UnaryOp .Not a pos) (.nt ia) := by
  refine fun Y W Φ X ok => PT.imp (pt_not (ha Y W Φ X ok)) fun σ H Q ⟨ρ, F, H0, er, h⟩ => ?_
  unfold evE at h
  dsimp only at h
  rw [bind_assoc] at h
  refine ⟨ρ, F, H0, er, ?_⟩
  dsimp only
  cases e : evE Φ ia ρ with
  | ex c as => rw [e] at h; exact h
  | bad => rw [e] at h; exact h
  | ok z =>
    rw [e] at h
    cases z with
    | bool b => exact h
    | _ => exact False.elim h
def SW (T : Tb) (e : Expr) (i : E) : Prop := ∀ (Y : Xsys) (W : XW) (Φ : Nat → List PyData → R PyData) (X : Cx), CxOk Y W T Φ X → PW X e (rdT (Y.kb X.K) W fun ρ => (evE Φ i ρ).bind boolV)
theorem PW.imp {X : Cx} {e : Expr} {t t' : TT} (h : PW X e t) (f : ∀ σ H Q, t' σ H Q → t σ H Q) : PW X e t' := ⟨fun wh pins s σ H Q I q => h.run wh pins s σ H Q I (f σ H Q q)⟩
theorem sw_and1 (ha : ST T a ia) : SW T (.BoolOp .And [a] pos) ia := fun Y W Φ X ok => pw_and1 (ha Y W Φ X ok)
theorem sw_or1 (ha : ST T a ia) : SW T (.BoolOp .Or [a] pos) ia := fun Y W Φ X ok => pw_or1 (ha Y W Φ X ok)
theorem sw_and {rest : List Expr} (ha : ST T a ia) (hb : SW T (.BoolOp .And (b :: rest) pos) ib) : SW T (.BoolOp .And (a :: b :: rest) pos) (.conj ia ib) := by
  refine fun Y W Φ X ok => PW.imp (pw_and (ha Y W Φ X ok) (hb Y W Φ X ok)) fun σ H Q ⟨ρ, F, H0, er, h⟩ => ?_
  unfold evE at h
  dsimp only at h
  rw [bind_assoc] at h
  refine ⟨ρ, F, H0, er, ?_⟩
  dsimp only
  cases e : evE Φ ia ρ with
  | ex c as => rw [e] at h; exact h
  | bad => rw [e] at h; exact h
  | ok z =>
    rw [e] at h
    cases z with
    | bool b =>
      cases b with
      | true => exact fun H1 s1 => ⟨ρ, F, H0, er.grow s1, RP.mono h fun k hk H2 s2 => hk H2 (s1.trans s2)⟩
      | false => exact fun H1 s1 => h H1 s1
    | _ => exact False.elim h
theorem sw_or {rest : List Expr} (ha : ST T a ia) (hb : SW T (.BoolOp .Or (b :: rest) pos) ib) : SW T (.BoolOp .Or (a :: b :: rest) pos) (.disj ia ib) := by
  refine fun Y W Φ X ok => PW.imp (pw_or (ha Y W Φ X ok) (hb Y W Φ X ok)) fun σ H Q ⟨ρ, F, H0, er, h⟩ => ?_
  unfold evE at h
  dsimp only at h
  rw [bind_assoc] at h
  refine ⟨ρ, F, H0, er, ?_⟩
  dsimp only
  cases e : evE Φ ia ρ with
  | ex c as => rw [e] at h; exact h
  | bad => rw [e] at h; exact h
  | ok z =>
    rw [e] at h
    cases z with
    | bool b =>
      cases b with
      | false => exact fun H1 s1 => ⟨ρ, F, H0, er.grow s1, RP.mono h fun k hk H2 s2 => hk H2 (s1.trans s2)⟩
      | true => exact fun H1 s1 => h H1 s1
    | _ => exact False.elim h
theorem st_sw (h : SW T a ia) : ST T a ia := fun Y W Φ X ok => (h Y W Φ X ok).pt
/-- an expression that has no test of its own -/
def plainT : Expr → Bool
  | .UnaryOp .Not _ _ => false
  | .BoolOp _ _ _ => false
  | .IfExp _ _ _ _ => false
  | .Compare _ _ _ _ => false
  | _ => true
theorem st_val (hp : plainT a = true) (ha : SE T a ia) : ST T a ia := by
  refine fun Y W Φ X ok => PT.imp (pt_val (ha.2 Y W Φ X ok) ?_) fun σ H Q ⟨ρ, F, H0, er, h⟩ => ?_
  · intro whole
    cases a <;> first | rfl | (exact absurd hp Bool.false_ne_true) | (rename_i op _ _; cases op <;> first | rfl | exact absurd hp Bool.false_ne_true)
  · refine ⟨ρ, F, H0, er, (RP.bind h).mono fun z hz v H' s r i => ?_⟩
    obtain ⟨k, rfl, hz⟩ := boolV_ok hz
    exact ⟨k, repI_bool i, hz H' s⟩
end
end L2.Pu
namespace L2.Pu
open PySem PySem.Spec PyProof.Rows
/-! ### the names' values change -/
section
variable {K : KB} {F : Addr → Prop} {H0 H H' : Hp} {σ : L2.St} {ρ : PEnv}
theorem set_get {α : Type} {l : List α} {i j : Nat} {x y : α} (h : (l.set i x)[j]? = some y) : (i = j ∧ y = x) ∨ (i ≠ j ∧ l[j]? = some y) := by
  by_cases e : i = j
  · subst e
    by_cases hl : i < l.length
    · rw [List.getElem?_set_self hl] at h
      cases h
      exact .inl ⟨rfl, rfl⟩
    · rw [List.getElem?_eq_none (by simpa using hl)] at h; cases h
  · rw [List.getElem?_set_ne e] at h
    exact .inr ⟨e, h⟩
theorem set_other {α : Type} {l : List α} {i j : Nat} {x : α} (e : i ≠ j) : (l.set i x)[j]? = l[j]? := List.getElem?_set_ne e
theorem get_lt {α : Type} {l : List α} {i : Nat} {x : α} (h : l[i]? = some x) : i < l.length := (List.getElem?_eq_some_iff.mp h).1
/-- a slot is given a value that owns nothing -/
theorem EnvRep.set (E : EnvRep K F H0 H σ ρ) {p : PyData} {v : V} (i : Nat) (r : Rep K (FX F [] σ ρ) H p v) : EnvRep K F H0 H (σ.set i (some v)) (ρ.set i (some (false, p))) := by
  have sub : ∀ a, FX F [] (σ.set i (some v)) (ρ.set i (some (false, p))) a → FX F [] σ ρ a := fun a z => by
    rcases z with z | ⟨j, q, hj, e1, e2⟩
    · exact .inl z
    · rcases set_get e1 with ⟨_, e⟩ | ⟨ne, e1⟩
      · cases e
      · rw [set_other ne] at e2
        exact .inr ⟨j, q, hj, e1, e2⟩
  refine ⟨by rw [List.length_set, List.length_set]; exact E.len, fun j q e => ?_, fun j q e => ?_, fun j k q q' a e1 e2 e3 e4 => ?_, E.same, E.ft, E.bs⟩
  · rcases set_get e with ⟨ne, e⟩ | ⟨ne, e⟩
    · cases e
      subst ne
      have hl := get_lt e
      refine ⟨v, ?_, Rep.sub sub _ _ r⟩
      have hl : i < ρ.length := by
        have := get_lt ‹(ρ.set i _)[i]? = _›
        rw [List.length_set] at this
        exact this
      rw [List.getElem?_set_self (by rw [E.len]; exact hl)]
    · obtain ⟨w, e1, r1⟩ := E.val j q e
      exact ⟨w, by rw [set_other ne]; exact e1, Rep.sub sub _ _ r1⟩
  · rcases set_get e with ⟨ne, e⟩ | ⟨ne, e⟩
    · cases e
    · obtain ⟨a, e2, e4, e5, r1⟩ := E.ow j q e
      exact ⟨a, by rw [set_other ne]; exact e2, e4, e5, r1.sub sub⟩
  · rcases set_get e1 with ⟨_, e⟩ | ⟨ne, e1⟩
    · cases e
    · rcases set_get e2 with ⟨_, e⟩ | ⟨ne2, e2⟩
      · cases e
      · rw [set_other ne] at e3
        rw [set_other ne2] at e4
        exact E.inj j k q q' a e1 e2 e3 e4
/-- a slot is given a list of its own: H1 is the heap ahead of it -/
theorem EnvRep.setOwnG {H1 : Hp} (E : EnvRep K F H0 H1 σ ρ) (sm : Same H1 H) {p : PyData} {a : Addr} (i : Nat) (hn : H1 a = none) (r : OwnO K (fun b => FX F [] σ ρ b ∨ b = a) H p a) :
    EnvRep K F H0 H (σ.set i (some (.ref a))) (ρ.set i (some (true, p))) := by
  have sub : ∀ b, FX F [] (σ.set i (some (.ref a))) (ρ.set i (some (true, p))) b → FX F [] σ ρ b ∨ b = a := fun b z => by
    rcases z with z | ⟨j, q, hj, e1, e2⟩
    · exact .inl (.inl z)
    · rcases set_get e1 with ⟨e, _⟩ | ⟨ne, e1⟩
      · subst e
        rcases set_get e2 with ⟨_, e⟩ | ⟨ne, _⟩
        · cases e; exact .inr rfl
        · exact absurd rfl ne
      · rw [set_other ne] at e2
        exact .inl (.inr ⟨j, q, hj, e1, e2⟩)
  have nF : ¬ F a := fun z => by
    obtain ⟨xs, e, _⟩ := E.ft a z
    rw [hn] at e; cases e
  refine ⟨by rw [List.length_set, List.length_set]; exact E.len, fun j q e => ?_, fun j q e => ?_, fun j k q q' b e1 e2 e3 e4 => ?_, E.same.trans sm, E.ft.same sm, E.bs⟩
  · rcases set_get e with ⟨ne, e⟩ | ⟨ne, e⟩
    · cases e
    · obtain ⟨w, e1, r1⟩ := E.val j q e
      exact ⟨w, by rw [set_other ne]; exact e1, Rep.sub sub _ _ (Rep.grow sm _ _ (rep_avoid hn _ _ r1))⟩
  · rcases set_get e with ⟨ne, e⟩ | ⟨ne, e⟩
    · cases e
      subst ne
      have hl2 : i < ρ.length := by
        have := get_lt ‹(ρ.set i _)[i]? = _›
        rw [List.length_set] at this
        exact this
      exact ⟨a, by rw [List.getElem?_set_self (by rw [E.len]; exact hl2)], nF, E.same.free hn, r.move (fun _ e => e) fun _ _ r => Reps.sub sub _ _ r⟩
    · obtain ⟨a', e2, e4, e5, r1⟩ := E.ow j q e
      exact ⟨a', by rw [set_other ne]; exact e2, e4, e5, r1.move (fun _ e => sm _ _ e) fun _ _ r => Reps.sub sub _ _ (Reps.grow sm _ _ (reps_avoid hn _ _ r))⟩
  · have clash : ∀ {j : Nat} {q : PyData}, ρ[j]? = some (some (true, q)) → σ[j]? = some (some (.ref a)) → False := fun {j q} e1 e2 => by
      obtain ⟨a', e3, _, _, o⟩ := E.ow j q e1
      rw [e2] at e3
      cases e3
      obtain ⟨_, e4, _⟩ := o.mut
      rw [hn] at e4; cases e4
    rcases set_get e1 with ⟨i1, x1⟩ | ⟨ne1, x1⟩
    · subst i1
      rcases set_get e3 with ⟨_, y⟩ | ⟨ne, _⟩
      · cases y
        rcases set_get e2 with ⟨i2, _⟩ | ⟨ne2, x2⟩
        · exact i2
        · rw [set_other ne2] at e4
          exact (clash x2 e4).elim
      · exact absurd rfl ne
    · rw [set_other ne1] at e3
      rcases set_get e2 with ⟨i2, x2⟩ | ⟨ne2, x2⟩
      · subst i2
        rcases set_get e4 with ⟨_, y⟩ | ⟨ne, _⟩
        · cases y
          exact (clash x1 e3).elim
        · exact absurd rfl ne
      · rw [set_other ne2] at e4
        exact E.inj j k q q' b x1 x2 e3 e4
theorem EnvRep.setOwn {H1 : Hp} (E : EnvRep K F H0 H1 σ ρ) (sm : Same H1 H) {ps : List PyData} {a : Addr} {vs : List V} (i : Nat) (hn : H1 a = none) (hl : H a = some (.lst vs)) (r : Reps K (fun b => FX F [] σ ρ b ∨ b = a) H ps vs) :
    EnvRep K F H0 H (σ.set i (some (.ref a))) (ρ.set i (some (true, .list ps))) := E.setOwnG sm i hn ⟨vs, hl, r⟩
theorem mod_get {l : PEnv} {i j : Nat} {y : Sl} (h : (l.modify i share1)[j]? = some y) : ∃ x, l[j]? = some x ∧ ((i = j ∧ y = share1 x) ∨ (i ≠ j ∧ y = x)) := by
  rw [List.getElem?_modify] at h
  cases e : l[j]? with
  | none => rw [e] at h; cases h
  | some x =>
    rw [e] at h
    refine ⟨x, rfl, ?_⟩
    by_cases ij : i = j
    · simp only [Option.map_eq_map, Option.map_some, if_pos ij, Option.some.injEq] at h
      exact .inl ⟨ij, h.symm⟩
    · simp only [Option.map_eq_map, Option.map_some, if_neg ij, Option.some.injEq] at h
      exact .inr ⟨ij, h.symm⟩
/-- a slot's own list is its own no more -/
theorem EnvRep.share1 (E : EnvRep K F H0 H σ ρ) (i : Nat) : EnvRep K F H0 H σ (ρ.modify i share1) := by
  have sub : ∀ a, FX F [] σ (ρ.modify i Pu.share1) a → FX F [] σ ρ a := fun a z => by
    rcases z with z | ⟨j, q, hj, e1, e2⟩
    · exact .inl z
    · obtain ⟨x, ex, c⟩ := mod_get e1
      rcases c with ⟨_, e⟩ | ⟨_, e⟩
      · cases x with
        | none => cases e
        | some bp => cases e
      · subst e
        exact .inr ⟨j, q, hj, ex, e2⟩
  refine ⟨by rw [List.length_modify]; exact E.len, fun j q e => ?_, fun j q e => ?_, fun j k q q' a e1 e2 e3 e4 => ?_, E.same, E.ft, E.bs⟩
  · obtain ⟨x, ex, c⟩ := mod_get e
    rcases c with ⟨ij, e⟩ | ⟨_, e⟩
    · subst ij
      cases x with
      | none => cases e
      | some bp =>
        obtain ⟨b, p⟩ := bp
        cases e
        cases b with
        | false =>
          obtain ⟨w, e1, r1⟩ := E.val i q ex
          exact ⟨w, e1, Rep.sub sub _ _ r1⟩
        | true =>
          obtain ⟨a, e2, e4, e5, r1⟩ := E.ow i q ex
          refine ⟨.ref a, e2, r1.rep (fun z => ?_) sub⟩
          rcases z with z | ⟨j, q, hj, f1, f2⟩
          · exact e4 z
          · obtain ⟨x, fx, c⟩ := mod_get f1
            rcases c with ⟨_, e⟩ | ⟨ne, e⟩
            · cases x <;> cases e
            · subst e
              exact ne (E.inj i j _ _ a ex fx e2 f2)
    · subst e
      obtain ⟨w, e1, r1⟩ := E.val j q ex
      exact ⟨w, e1, Rep.sub sub _ _ r1⟩
  · obtain ⟨x, ex, c⟩ := mod_get e
    rcases c with ⟨ij, e⟩ | ⟨_, e⟩
    · cases x <;> cases e
    · subst e
      obtain ⟨a, e2, e4, e5, r1⟩ := E.ow j q ex
      exact ⟨a, e2, e4, e5, r1.sub sub⟩
  · obtain ⟨x, ex, c⟩ := mod_get e1
    obtain ⟨y, ey, d⟩ := mod_get e2
    rcases c with ⟨_, e⟩ | ⟨_, e⟩
    · cases x <;> cases e
    · rcases d with ⟨_, e'⟩ | ⟨_, e'⟩
      · cases y <;> cases e'
      · subst e e'
        exact E.inj j k q q' a ex ey e3 e4
theorem EnvRep.share (E : EnvRep K F H0 H σ ρ) : ∀ L : List Nat, EnvRep K F H0 H σ (share L ρ)
  | [] => E
  | i :: L => (EnvRep.share E L).share1 i
theorem share_get : ∀ (L : List Nat) {j : Nat} {q : PyData}, (Pu.share L ρ)[j]? = some (some (true, q)) → j ∉ L ∧ ρ[j]? = some (some (true, q))
  | [], j, q, h => ⟨List.not_mem_nil, h⟩
  | i :: L, j, q, h => by
    obtain ⟨x, ex, c⟩ := mod_get (show ((Pu.share L ρ).modify i Pu.share1)[j]? = _ from h)
    rcases c with ⟨_, e⟩ | ⟨ne, e⟩
    · cases x <;> cases e
    · subst e
      obtain ⟨h1, h2⟩ := share_get L ex
      exact ⟨fun z => (List.mem_cons.mp z).elim (fun z => ne z.symm) h1, h2⟩
theorem share_own (L : List Nat) (a : Addr) (h : FX F [] σ (Pu.share L ρ) a) : FX F L σ ρ a := by
  rcases h with z | ⟨j, q, hj, e1, e2⟩
  · exact .inl z
  · obtain ⟨h1, h2⟩ := share_get L e1
    exact .inr ⟨j, q, h1, h2, e2⟩
end
end L2.Pu
/-! ### sorted, of a list or a tuple, of ints or of tuples of ints and texts -/
namespace SrtO
open PySem PyProof.Rows Srt
abbrev TKey := L2.Pu.TK
abbrev ltT (a b : TKey) : Bool := PyProof.Rows.lexLt PyProof.Rows.itemOrd a b
theorem swo_ltT : Swo ltT := by
  refine ⟨fun x y h => ?_, fun x y z h1 h2 => ?_⟩
  · cases q : ltT y x with
    | false => rfl
    | true =>
      have := PyProof.Rows.lex_trans (O := PyProof.Rows.itemOrd) x y x h q
      rw [PyProof.Rows.lex_irrefl] at this
      cases this
  · cases q : ltT z x with
    | false => rfl
    | true =>
      rcases PyProof.Rows.lex_negTrans (O := PyProof.Rows.itemOrd) z y x q with h | h
      · have h : ltT z y = true := h
        rw [h2] at h; cases h
      · have h : ltT y x = true := h
        rw [h1] at h; cases h
theorem swo_key {α : Type} (k : α → TKey) : Swo fun v u => ltT (k v) (k u) := ⟨fun x y => swo_ltT.asym _ _, fun x y z => swo_ltT.tr _ _ _⟩
section
variable {prog : Program} {w : World} {A : Around} {E : Value → Shared → Prop} {s : Shared}
def TupA (h : Heap) (shape : Nat → Bool) (v : Value) (l : TKey) : Prop := ∃ a o xs n f, v = .ref a ∧ h.get? a = some o ∧ o.cls = .type "tuple" ∧ o.data = .seq xs n ∧ xs[0]? = some f ∧ PyProof.Rows.tupItems shape 0 xs.toList = some l
theorem TupA.key {h : Heap} {shape : Nat → Bool} {v : Value} {l : TKey} (t : TupA h shape v l) : PyProof.Rows.tupKey h shape v = some l := by
  obtain ⟨a, o, xs, n, f, rfl, ho, hc, hd, hf, hi⟩ := t
  show (match h.get? a with | some o => _ | none => none) = _
  rw [ho]
  simp only [hd]
  exact hi
theorem TupA.of {h : Heap} {shape : Nat → Bool} {v : Value} {l : TKey} (t : TupA h shape v l) : ∃ f, PyProof.Rows.TupOf h shape v f := by
  obtain ⟨a, o, xs, n, f, rfl, ho, hc, hd, hf, hi⟩ := t
  refine ⟨f, a, o, xs, n, rfl, ho, hc, hd, hf, fun hs => ?_, fun hs => ?_⟩
  · have e : xs.toList = f :: xs.toList.drop 1 := by
      have : xs.toList[0]? = some f := by rw [Array.getElem?_toList]; exact hf
      cases q : xs.toList with
      | nil => rw [q] at this; cases this
      | cons y ys => rw [q] at this; cases this; rfl
    rw [e] at hi
    obtain ⟨n, t, l', h1, _⟩ := PyProof.Rows.tupItems_int hs hi
    exact ⟨n, t, h1⟩
  · have e : xs.toList = f :: xs.toList.drop 1 := by
      have : xs.toList[0]? = some f := by rw [Array.getElem?_toList]; exact hf
      cases q : xs.toList with
      | nil => rw [q] at this; cases this
      | cons y ys => rw [q] at this; cases this; rfl
    rw [e] at hi
    obtain ⟨n, t, l', h1, _⟩ := PyProof.Rows.tupItems_str hs hi
    exact ⟨n, t, h1⟩
theorem TupA.keeps {h h' : Heap} {shape : Nat → Bool} {v : Value} {l : TKey} (t : TupA h shape v l) (k : ∀ b o, h.get? b = some o → o.cls = .type "tuple" → h'.get? b = some o) : TupA h' shape v l := by
  obtain ⟨a, o, xs, n, f, rfl, ho, hc, hd, hf, hi⟩ := t
  exact ⟨a, o, xs, n, f, rfl, k a o ho hc, hc, hd, hf, hi⟩
theorem tups_of {h : Heap} {shape : Nat → Bool} : ∀ {vs : List Value}, (∀ v ∈ vs, ∃ f, PyProof.Rows.TupOf h shape v f) → ∃ fs, PyProof.Rows.TupsOf h shape vs fs ∧ fs.length = vs.length
  | [], _ => ⟨[], .nil, rfl⟩
  | v :: vs, hp => by
    obtain ⟨f, hf⟩ := hp v List.mem_cons_self
    obtain ⟨fs, h1, h2⟩ := tups_of fun u hu => hp u (List.mem_cons_of_mem _ hu)
    exact ⟨f :: fs, .cons hf h1, by rw [List.length_cons, List.length_cons, h2]⟩
theorem tups_cmp {vs : List Value} {shape : Nat → Bool} {k : Value → TKey} (hp : ∀ v ∈ vs, TupA s.heap shape v (k v)) : Cmp prog w A s (tuples' true) (fun p => p.1 ∈ vs) (lt2 fun v u => ltT (k v) (k u)) := by
  intro p q hm hm'
  exact PyProof.Rows.tup_ltAt true A (fun _ _ => False) p.1 q.1 (k p.1) (k q.1) (hp _ hm).key (hp _ hm').key ⟨rfl, rfl⟩
theorem tups_sortableO {a : Addr} {vs : List Value} {shape : Nat → Bool} {k : Value → TKey} (h0 : 0 < vs.length) (hp : ∀ v ∈ vs, TupA s.heap shape v (k v)) (ha : ∀ o, s.heap.get? a = some o → o.cls ≠ .type "tuple") : SortableO prog w A s a vs fun v u => ltT (k v) (k u) := by
  intro h' keep
  have hp' : ∀ v ∈ vs, TupA h' shape v (k v) := fun v hm => (hp v hm).keeps fun b o e c => keep b o (fun z => by subst z; exact ha o e c) e
  obtain ⟨fs, h1, h2⟩ := tups_of fun v hm => (hp' v hm).of
  refine ⟨tuples' true, fun Q E hq => ?_, tups_cmp hp'⟩
  exact PyProof.Rows.tup_kind (by omega) h1 hq
/-- a list made of a tuple -/
theorem collect_tupT {l : Addr} {vs : List Value} {Q : List Value → Shared → Prop} (hl : IsTup s.heap l vs.toArray)
    (h : Q vs { s with heap := (s.heap.push (seqObj "list" #[] 0)).update s.heap.objs.size (Obj.mapSeq (· ++ vs.toArray)) }) (hsz : vs.length ≤ sizeLine) :
    wpAny (model prog w) A (collect (.ref l)) Q E s := by
  obtain ⟨o, ho, hc, n, hd⟩ := id hl
  unfold collect
  refine wpAny_bind (wpAny_runValue (codeAny_builtin entry_proto_collect' ?_))
  show wpAny _ _ (do again (.builtin "list.__iadd__" ⟨[← newList [], .ref l], []⟩)) _ _ s
  refine wpAny_bind (wpAny_newList (wpAny_pure ⟨Code.quiet_builtin _ (by decide +kernel), codeAny_builtin entry_list_iadd' ?_⟩))
  show wpAny _ _ (Builtin.List.listExtendWith (.ref s.heap.objs.size) (.ref l) (.ref s.heap.objs.size)) _ _ { s with heap := s.heap.push (seqObj "list" #[] 0) }
  unfold Builtin.List.listExtendWith
  have ho' : (s.heap.push (seqObj "list" #[] 0)).get? l = some o := Heap.get?_push_of_some _ ho
  refine wpAny_bind (wpAny_typeOf (T := "tuple") ⟨o, ho', hc⟩ ?_)
  have ht : (Value.type "tuple" == Value.type "tuple") = true := by rfl
  rw [if_pos (by rw [ht]; simp)]
  refine wpAny_bind (listItems_at ho' hd ?_)
  refine wpAny_bind (listItems_at (xs := #[]) (n := 0) (Heap.get?_push_size _ rfl) rfl ?_)
  rw [if_neg (by simp)]
  refine wpAny_bind (listUpdate_at (xs := #[]) (n := 0) (Heap.get?_push_size _ rfl) rfl ?_ (Nat.zero_le _) (by show (#[] ++ vs.toArray).size ≤ sizeLine + 1; simp only [Array.size_append, List.size_toArray, List.length_nil]; omega))
  refine wpAny_pure ?_
  show wpAny (model prog w) A (do
      let o ← load s.heap.objs.size
      match o.data with
      | .seq xs _ => pure xs.toList
      | _ => unsupported "internal:collect") Q E { s with heap := (s.heap.push (seqObj "list" #[] 0)).update s.heap.objs.size (Obj.mapSeq (· ++ vs.toArray)) }
  refine wpAny_bind (wpAny_load (get?_update_seq (Heap.get?_push_size _ rfl) _) ?_)
  show wpAny _ _ (pure ((#[] : Array Value) ++ vs.toArray).toList) Q E _
  rw [show ((#[] : Array Value) ++ vs.toArray).toList = vs by simp]
  exact wpAny_pure h
/-- sorted(x), x a list or a tuple -/
theorem sorted_ordX {l : Addr} {vs : List Value} {ltv : Value → Value → Bool} {Q : Value → Shared → Prop} (O : Swo ltv) (hl : s.heap.IsList l vs.toArray ∨ IsTup s.heap l vs.toArray) (hz : vs.length ≤ sizeLine)
    (hS : 2 ≤ vs.length → ∀ (h₁ : Heap) (a : Addr), h₁.get? a = some (seqObj "list" vs.toArray 0) → (∀ b o, s.heap.get? b = some o → b ≠ a ∧ h₁.get? b = some o) → SortableO prog w A.in1.in1 { s with heap := h₁ } a vs ltv)
    (h : ∀ out : List Value, Srtd ltv out → Stb ltv out vs → Q (.ref (s.heap.objs.size + 1)) { s with heap := sortedAll s.heap vs out.toArray }) :
    wpAny (model prog w) A (call (.builtin "sorted") [.ref l]) Q E s := by
  refine Calls.call_function_entry kind_sorted plain_sorted entry_sorted (args_sorted1 _) ?_
  unfold Builtin.«sorted»
  refine wpAny_bind (m := checkCount "sorted" 1 1 _) (wpAny_pure ?_)
  have key : ∀ (A' : Around) (E' : Value → Shared → Prop), wpAny (model prog w) A' (collect (.ref l)) (fun vs' s' => vs' = vs ∧ s' = { s with heap := (s.heap.push (seqObj "list" #[] 0)).update s.heap.objs.size (Obj.mapSeq (· ++ vs.toArray)) }) E' s := fun A' E' => by
    rcases hl with hl | hl
    · exact collect_list hl ⟨rfl, rfl⟩ hz
    · exact collect_tupT hl ⟨rfl, rfl⟩ hz
  refine wpAny_bind (wpAny_mono (key _ _) (fun vs' s' hh => ?_) fun _ _ e => e)
  obtain ⟨rfl, rfl⟩ := hh
  refine wpAny_bind (wpAny_newList ?_ hz)
  have hsz : ((s.heap.push (seqObj "list" #[] 0)).update s.heap.objs.size (Obj.mapSeq (· ++ vs'.toArray))).objs.size = s.heap.objs.size + 1 := by
    rw [Heap.size_update, size_push']
  have hoL : (((s.heap.push (seqObj "list" #[] 0)).update s.heap.objs.size (Obj.mapSeq (· ++ vs'.toArray))).push (seqObj "list" vs'.toArray 0)).get? (s.heap.objs.size + 1) = some (seqObj "list" vs'.toArray 0) := by
    rw [← hsz]; exact Heap.get?_push_size _ rfl
  have keep : ∀ b o, s.heap.get? b = some o → b ≠ s.heap.objs.size + 1 ∧ (((s.heap.push (seqObj "list" #[] 0)).update s.heap.objs.size (Obj.mapSeq (· ++ vs'.toArray))).push (seqObj "list" vs'.toArray 0)).get? b = some o := fun b o q => by
    have hlt : b < s.heap.objs.size := Heap.lt_size q
    refine ⟨Nat.ne_of_lt (Nat.lt_succ_of_lt hlt), Heap.get?_push_of_some _ ?_⟩
    rw [Heap.get?_update_ne _ _ _ _ (Nat.ne_of_lt hlt)]
    exact Heap.get?_push_of_some _ q
  show wpAny _ _ _ _ _ { s with heap := ((s.heap.push (seqObj "list" #[] 0)).update s.heap.objs.size (Obj.mapSeq (· ++ vs'.toArray))).push (seqObj "list" vs'.toArray 0) }
  rw [hsz]
  refine wpAny_bind (wpAny_holding (wpAny_call_entry slot_list_sort ⟨_, hoL, rfl⟩ entry_list_sort (list_sort_ord O hoL hz (fun h2 => hS h2 _ _ hoL keep) fun out hs hb => ⟨_, rfl, ?_⟩) (args_list_sort _)))
  exact wpAny_pure ⟨_, rfl, h out hs hb⟩
end
end SrtO
namespace L2.Pu
open PySem PySem.Spec PyProof.Rows
/-- the key of a tuple's items -/
def vItems (shape : Nat → Bool) : Nat → List V → Option TK
  | _, [] => some []
  | i, .int n :: r => if shape i = true then none else (vItems shape (i + 1) r).map (Sum.inl n :: ·)
  | i, .str x :: r => if shape i = true then (vItems shape (i + 1) r).map (Sum.inr x.cps.toList :: ·) else none
  | _, _ :: _ => none
theorem vItems_ok {shape : Nat → Bool} : ∀ {vs : List V} {us : List Value} {i : Nat} {l : TK}, Vals vs us → vItems shape i vs = some l → PyProof.Rows.tupItems shape i us = some l
  | _, _, _, _, .nil, h => h
  | v :: vs, u :: us, i, l, .cons r t, h => by
    cases v with
    | int n =>
      obtain ⟨t1, rfl⟩ := r
      have h : (if shape i = true then none else (vItems shape (i + 1) vs).map (Sum.inl n :: ·)) = some l := h
      show (if shape i = true then none else (PyProof.Rows.tupItems shape (i + 1) us).map (Sum.inl n :: ·)) = some l
      by_cases hs : shape i = true
      · rw [if_pos hs] at h; cases h
      · rw [if_neg hs] at h ⊢
        cases q : vItems shape (i + 1) vs with
        | none => rw [q] at h; cases h
        | some l' => rw [q] at h; rw [vItems_ok t q]; exact h
    | str x =>
      obtain ⟨t1, rfl⟩ := r
      have h : (if shape i = true then (vItems shape (i + 1) vs).map (Sum.inr x.cps.toList :: ·) else none) = some l := h
      show (if shape i = true then (PyProof.Rows.tupItems shape (i + 1) us).map (Sum.inr x.cps.toList :: ·) else none) = some l
      by_cases hs : shape i = true
      · rw [if_pos hs] at h ⊢
        cases q : vItems shape (i + 1) vs with
        | none => rw [q] at h; cases h
        | some l' => rw [q] at h; rw [vItems_ok t q]; exact h
      · rw [if_neg hs] at h; cases h
    | _ => cases h
def rSortX (K : PySem.W.Frag) : List V → Hp → VK → Prop := fun vs H Q => ∃ (a : Addr) (xs : List V) (shape : Nat → Bool), vs = [V.ref a] ∧ (SqL K H a xs ∨ SqT K H a xs) ∧ (∀ x ∈ xs, ∃ t its l, x = V.ref t ∧ SqT K H t its ∧ its ≠ [] ∧ vItems shape 0 its = some l) ∧
  ∀ k : V → TK, (∀ t its l, SqT K H t its → vItems shape 0 its = some l → k (.ref t) = l) →
  ∀ ys p, SrtO.Srtd (fun x y => ltK (k x) (k y)) ys → SrtO.Stb (fun x y => ltK (k x) (k y)) ys xs → H p = none → Q (.ref p) (upd H p (.lst ys))
/-- the key, out of the heap -/
def kOf (h : Heap) (shape : Nat → Bool) : V → TK
  | .ref t => (PyProof.Rows.tupKey h shape (.ref t)).getD []
  | _ => []
section
variable {X : Cx}
theorem sorted_at {pins : List (Addr × Obj)} {σ : L2.St} {H : Hp} {s : Shared} {a : Addr} {xs : List V} (I : Inv X pins σ H s) (h : SqL X.K H a xs ∨ SqT X.K H a xs) : ∃ its : List Value, Vals xs its ∧ (s.heap.IsList a its.toArray ∨ IsTup s.heap a its.toArray) ∧ xs.length ≤ sizeLine := by
  rcases h with h | h
  · obtain ⟨its, r, p, z⟩ := I.list h
    exact ⟨its, r, .inl p.isList, z⟩
  · obtain ⟨its, r, p, z⟩ := I.tuple h
    exact ⟨its, r, .inr p, z⟩
theorem cr_sortX : CallR X (.builtin "sorted") (rSortX X.K) := by
  intro pins s σ H vs us Q I r h
  obtain ⟨a, xs, shape, rfl, hs, hx, q⟩ := h
  obtain ⟨its, rv, hl, hz⟩ := sorted_at I hs
  obtain ⟨u, rfl, ru⟩ := vals1 r
  obtain rfl : u = Value.ref a := ru
  obtain ⟨e1, e2⟩ := refs_back rv fun x m => by
    obtain ⟨t, _, _, e, _⟩ := hx x m
    exact ⟨t, e⟩
  have kk0 : ∀ t its l, SqT X.K H t its → vItems shape 0 its = some l → kOf s.heap shape (.ref t) = l := fun t its l ht hk => by
    obtain ⟨us', r2, ⟨o, ho, hc, n, hd⟩, _⟩ := I.tuple ht
    have hi := vItems_ok r2 hk
    show (PyProof.Rows.tupKey s.heap shape (.ref t)).getD [] = l
    have : PyProof.Rows.tupKey s.heap shape (.ref t) = some l := by
      show (match s.heap.get? t with | some o => _ | none => none) = _
      rw [ho]
      simp only [hd]
      exact hi
    rw [this]; rfl
  have q := q _ kk0
  generalize hkdef : kOf s.heap shape = k at *
  have hp : ∀ v ∈ its, SrtO.TupA s.heap shape v (k (backV v)) := fun v hv => by
    obtain ⟨t, rfl⟩ := e2 v hv
    have hm : V.ref t ∈ xs := by rw [e1]; exact List.mem_map.mpr ⟨_, hv, rfl⟩
    obtain ⟨t', its', l, e, ht, hne, hk⟩ := hx _ hm
    cases e
    have el : k (backV (Value.ref t)) = l := kk0 t its' l ht hk
    obtain ⟨us', r2, ⟨o, ho, hc, n, hd⟩, _⟩ := I.tuple ht
    have hi := vItems_ok r2 hk
    cases us' with
    | nil =>
      cases r2
      exact absurd rfl hne
    | cons f us' => exact ⟨t, o, _, n, f, rfl, ho, hc, hd, by simp, by rw [el]; exact hi⟩
  refine SrtO.sorted_ordX (SrtO.swo_key fun u => k (backV u)) hl (by rw [← rv.length]; exact hz) (fun h2 h₁ a' ha kk => ?_) fun out h1 h2 => ?_
  · refine SrtO.tups_sortableO (s := { s with heap := h₁ }) (shape := shape) (by omega) (fun v hm => (hp v hm).keeps fun b o e _ => (kk b o e).2) fun o e => ?_
    have e' : some o = some (seqObj "list" its.toArray 0) := e.symm.trans ha
    cases e'
    intro c
    exact absurd (Value.type.inj c) (by decide)
  · have h3 : ∀ u ∈ out, ∃ a, u = Value.ref a := fun u hu => e2 u (h2.perm.mem_iff.mp hu)
    obtain ⟨n, hn⟩ := PyProof.Rows.sortedAll_at s.heap its out.toArray
    have hb : SrtO.Stb (fun x y => ltK (k x) (k y)) (out.map backV) xs := by
      rw [e1]
      exact SrtO.Stb.map (SrtO.swo_key k) backV h2
    refine ⟨.ref _, upd H (s.heap.objs.size + 1) (.lst (out.map backV)), I.laid (t' := s.toks) (fun b o e => PyProof.Rows.sortedAll_old e) (Nat.le_succ _) ⟨?_, out, n, vals_back h3, hn⟩, rfl, q _ _ (SrtO.srtd_map h1) hb (I.hok.fresh (Nat.le_succ _))⟩
    rw [hb.len]
    exact hz
/-- ints, in a list or a tuple -/
def rSortIX (K : PySem.W.Frag) : List V → Hp → VK → Prop := fun vs H Q => ∃ (a : Addr) (ns : List Int), vs = [V.ref a] ∧ (SqL K H a (ns.map V.int) ∨ SqT K H a (ns.map V.int)) ∧
  ∀ (ns' : List Int) (p : Addr), ns'.Perm ns → ns'.Pairwise (· ≤ ·) → H p = none → Q (.ref p) (upd H p (.lst (ns'.map V.int)))
theorem cr_sortIX : CallR X (.builtin "sorted") (rSortIX X.K) := by
  intro pins s σ H vs us Q I r h
  obtain ⟨a, ns, rfl, hs, q⟩ := h
  obtain ⟨its, rv, hl, hz⟩ := sorted_at I hs
  rw [Vals.ref1 r]
  have hi := rv.ints
  refine SrtO.sorted_ordX SrtO.swo_int hl (by rw [← rv.length]; exact hz) (fun h2 h₁ a' _ _ => SrtO.ints_sortable hi h2) fun out h1 h2 => ?_
  obtain ⟨k1, k2, k3⟩ := SrtO.ints_out hi h1 h2
  obtain ⟨ep, he'⟩ := PyProof.Rows.sortedAll_at s.heap its out.toArray
  have hlen : ((out.map SrtO.iv).map V.int).length ≤ sizeLine := by
    rw [List.length_map, k2.length_eq]
    rw [List.length_map] at hz
    exact hz
  exact ⟨.ref _, upd H (s.heap.objs.size + 1) (.lst ((out.map SrtO.iv).map V.int)), I.laid (t' := s.toks) (fun _ _ => PyProof.Rows.sortedAll_old) (Nat.le_succ _) ⟨hlen, out, ep, vals_of_ints k1, he'⟩, rfl, q _ _ k2 k3 (I.hok.fresh (Nat.le_succ _))⟩
end
/-! ### which list that is -/
section
variable {α : Type} (lt : α → α → Bool)
def insG (x : α) : List α → List α
  | [] => [x]
  | y :: l => if lt y x = true then y :: insG x l else x :: y :: l
def sortG : List α → List α
  | [] => []
  | x :: l => insG lt x (sortG l)
variable {lt : α → α → Bool}
theorem insG_perm (x : α) : ∀ l : List α, (insG lt x l).Perm (x :: l)
  | [] => List.Perm.refl _
  | y :: l => by
    unfold insG
    split
    · exact ((insG_perm x l).cons y).trans (List.Perm.swap x y l)
    · exact List.Perm.refl _
theorem insG_srtd (O : SrtO.Swo lt) (x : α) : ∀ {l : List α}, SrtO.Srtd lt l → SrtO.Srtd lt (insG lt x l)
  | [], _ => SrtO.srtd_one x
  | y :: l, h => by
    unfold insG
    split
    · rename_i g
      refine List.pairwise_cons.mpr ⟨fun z hz => ?_, insG_srtd O x (List.pairwise_cons.mp h).2⟩
      rcases List.mem_cons.mp ((insG_perm x l).mem_iff.mp hz) with rfl | hz
      · exact O.asym _ _ g
      · exact SrtO.srtd_head h z hz
    · rename_i g
      have g : lt y x = false := by simpa using g
      refine List.pairwise_cons.mpr ⟨fun z hz => ?_, h⟩
      rcases List.mem_cons.mp hz with rfl | hz
      · exact g
      · exact O.tr x y z g (SrtO.srtd_head h z hz)
theorem insG_stb (O : SrtO.Swo lt) (x : α) : ∀ l : List α, SrtO.Stb lt (insG lt x l) (x :: l)
  | [] => SrtO.Stb.refl _
  | y :: l => by
    refine ⟨insG_perm x _, fun z => ?_⟩
    unfold insG
    split
    · rename_i g
      have ih := (insG_stb O x l).cls z
      by_cases hx : SrtO.eqv lt z x = true
      · have hy : ¬ SrtO.eqv lt z y = true := fun hy => by
          rw [SrtO.eqv_trans O hy] at hx
          have := (SrtO.eqv_iff.mp hx).1
          rw [g] at this; cases this
        rw [List.filter_cons_of_neg hy, ih, List.filter_cons_of_pos hx, List.filter_cons_of_pos hx, List.filter_cons_of_neg hy]
      · rw [List.filter_cons_of_neg hx] at ih
        rw [List.filter_cons_of_neg hx (l := y :: l), List.filter_cons, List.filter_cons, ih]
    · rfl
theorem sortG_srtd (O : SrtO.Swo lt) : ∀ l : List α, SrtO.Srtd lt (sortG lt l)
  | [] => List.Pairwise.nil
  | x :: l => insG_srtd O x (sortG_srtd O l)
theorem sortG_stb (O : SrtO.Swo lt) : ∀ l : List α, SrtO.Stb lt (sortG lt l) l
  | [] => SrtO.Stb.refl _
  | x :: l => (insG_stb O x _).trans (SrtO.Stb.app (SrtO.Stb.refl [x]) (sortG_stb O l))
theorem sortG_one (O : SrtO.Swo lt) {l m : List α} (h1 : SrtO.Srtd lt m) (h2 : SrtO.Stb lt m l) : m = sortG lt l :=
  SrtO.stb_uniq O h1 (sortG_srtd O l) (h2.trans ⟨(sortG_stb O l).perm.symm, fun x => ((sortG_stb O l).cls x).symm⟩)
end
section
variable {K : PySem.W.Frag} {G : Addr → Prop} {H : Hp} {k : V → TK}
theorem reps_ins {x : PyData} {v : V} (hx : Rep K G H x v) (ex : k v = tupKeyP x) : ∀ {xs : List PyData} {vs : List V}, Reps K G H xs vs → (∀ (i : Nat) y u, xs[i]? = some y → vs[i]? = some u → k u = tupKeyP y) →
    Reps K G H (insT x xs) (insG (fun x y => ltK (k x) (k y)) v vs) ∧ ∀ (i : Nat) y u, (insT x xs)[i]? = some y → (insG (fun x y => ltK (k x) (k y)) v vs)[i]? = some u → k u = tupKeyP y
  | [], [], _, _ => by
    refine ⟨?_, fun i y u h1 h2 => ?_⟩
    · show Reps K G H [x] [v]
      unfold Reps
      exact ⟨hx, by unfold Reps; trivial⟩
    · cases i with
      | zero => cases h1; cases h2; exact ex
      | succ i => cases h1
  | y :: xs, u :: vs, r, hk => by
    have r0 := r
    unfold Reps at r
    have eu : k u = tupKeyP y := hk 0 y u rfl rfl
    unfold insT insG
    rw [← eu, ← ex]
    by_cases g : ltK (k u) (k v) = true
    · rw [if_pos g, if_pos g]
      obtain ⟨ih1, ih2⟩ := reps_ins hx ex r.2 fun i y u h1 h2 => hk (i + 1) y u h1 h2
      refine ⟨by unfold Reps; exact ⟨r.1, ih1⟩, fun i y' u' h1 h2 => ?_⟩
      cases i with
      | zero => cases h1; cases h2; exact eu
      | succ i => exact ih2 i y' u' h1 h2
    · rw [if_neg g, if_neg g]
      refine ⟨by unfold Reps; exact ⟨hx, r0⟩, fun i y' u' h1 h2 => ?_⟩
      cases i with
      | zero => cases h1; cases h2; exact ex
      | succ i => exact hk i y' u' h1 h2
  | [], _ :: _, r, _ => by unfold Reps at r; exact r.elim
  | _ :: _, [], r, _ => by unfold Reps at r; exact r.elim
theorem reps_sort : ∀ {xs : List PyData} {vs : List V}, Reps K G H xs vs → (∀ (i : Nat) y u, xs[i]? = some y → vs[i]? = some u → k u = tupKeyP y) →
    Reps K G H (sortT xs) (sortG (fun x y => ltK (k x) (k y)) vs) ∧ ∀ (i : Nat) y u, (sortT xs)[i]? = some y → (sortG (fun x y => ltK (k x) (k y)) vs)[i]? = some u → k u = tupKeyP y
  | [], [], r, _ => ⟨r, fun i y u h1 h2 => by cases h1⟩
  | y :: xs, u :: vs, r, hk => by
    unfold Reps at r
    obtain ⟨ih1, ih2⟩ := reps_sort r.2 fun i y u h1 h2 => hk (i + 1) y u h1 h2
    exact reps_ins r.1 (hk 0 y u rfl rfl) ih1 ih2
  | [], _ :: _, r, _ => by unfold Reps at r; exact r.elim
  | _ :: _, [], r, _ => by unfold Reps at r; exact r.elim
theorem ints_items {shape : Nat → Bool} : ∀ {ps : List PyData} {vs : List V} {i : Nat}, (∀ j, i ≤ j → shape j = false) → ps.all intAt = true → Reps K G H ps vs → vItems shape i vs = some (ps.filterMap keyI)
  | [], [], _, _, _, _ => rfl
  | p :: ps, v :: vs, i, hs, hp, r => by
    unfold Reps at r
    rw [List.all_cons, Bool.and_eq_true] at hp
    cases p with
    | int n =>
      have e : v = .int n := by have := r.1; unfold Rep at this; exact this
      subst e
      show (if shape i = true then none else (vItems shape (i + 1) vs).map (Sum.inl n :: ·)) = _
      rw [hs i (Nat.le_refl i), if_neg (by decide), ints_items (fun j hj => hs j (by omega)) hp.2 r.2]
      rfl
    | _ => cases hp.1
  | [], _ :: _, _, _, _, r => by unfold Reps at r; exact r.elim
  | _ :: _, [], _, _, _, r => by unfold Reps at r; exact r.elim
theorem tup_items {b : Bool} {p : PyData} {v : V} (h : tupOk b p = true) (r : Rep K G H p v) : ∃ t its, v = .ref t ∧ SqT K H t its ∧ its ≠ [] ∧ vItems (fun i => decide (i = 0) && b) 0 its = some (tupKeyP p) := by
  cases p with
  | tuple ps =>
    cases ps with
    | nil => cases h
    | cons p ps =>
      have h : ((if b = true then strAt p else intAt p) && ps.all intAt) = true := h
      rw [Bool.and_eq_true] at h
      unfold Rep at r
      obtain ⟨a, vs, rfl, sq, r⟩ := r
      cases vs with
      | nil => unfold Reps at r; exact r.elim
      | cons v vs =>
        unfold Reps at r
        refine ⟨a, v :: vs, rfl, sq, by simp, ?_⟩
        have tl : vItems (fun i => decide (i = 0) && b) (0 + 1) vs = some (ps.filterMap keyI) := ints_items (fun j hj => by rw [decide_eq_false (by omega)]; rfl) h.2 r.2
        cases b with
        | true =>
          cases p with
          | str x =>
            have e : v = .str x := by have := r.1; unfold Rep at this; exact this
            subst e
            show (if (decide (0 = 0) && true) = true then (vItems (fun i => decide (i = 0) && true) (0 + 1) vs).map (Sum.inr x.cps.toList :: ·) else none) = _
            rw [show (decide (0 = 0) && true) = true from rfl, if_pos rfl, tl]; rfl
          | _ => cases h.1
        | false =>
          cases p with
          | int n =>
            have e : v = .int n := by have := r.1; unfold Rep at this; exact this
            subst e
            show (if (decide (0 = 0) && false) = true then none else (vItems (fun i => decide (i = 0) && false) (0 + 1) vs).map (Sum.inl n :: ·)) = _
            rw [if_neg (by decide), tl]; rfl
          | _ => cases h.1
  | _ => cases h
theorem swo_ltK {α : Type} (k : α → TK) : SrtO.Swo fun x y => ltK (k x) (k y) := SrtO.swo_key k
end
end L2.Pu
namespace L2.Pu
open PySem PySem.Spec PyProof.Rows
section
variable {T : Tb} {x : Str} {pos p2 p : Pos} {a b c e : Expr} {es : List Expr} {ia ib ic ie : E} {is : List E}
theorem sa_nil : SA T [] [] := ⟨rfl, fun Y W Φ X ok => PA.imp pa_nil fun σ H Q ⟨ρ, F, H0, er, h⟩ => h [] H (Same.refl H) (by unfold Reps; trivial)⟩
theorem sa_cons (ha : SE T a ia) (hs : SA T es is) : SA T (a :: es) (ia :: is) := by
  refine ⟨by rw [List.all_cons, ha.1, hs.1]; rfl, fun Y W Φ X ok => PA.imp (pa_cons (ha.2 Y W Φ X ok) (hs.2 Y W Φ X ok) (plainE_star ha.1 _ _)) fun σ H Q ⟨ρ, F, H0, er, h⟩ => ?_⟩
  unfold evEs at h
  refine ⟨ρ, F, H0, er, (RP.bind h).mono fun x hx v1 H1 s1 r1 i1 => ?_⟩
  have er1 := er.grow s1
  refine ⟨ρ, F, H0, er1, (RP.bind hx).mono fun y hy vs H2 s2 r2 => ?_⟩
  refine hy (v1 :: vs) H2 (s1.trans s2) ?_
  unfold Reps
  exact ⟨Rep.sub FX.l _ _ (Rep.grow s2 _ _ r1.1), Reps.sub FX.r _ _ r2⟩
theorem evEs_len {Φ : Nat → List PyData → R PyData} {ρ : PEnv} {W : XW} : ∀ {is : List E} {P : List PyData → Prop}, RP W (evEs Φ is ρ) P → RP W (evEs Φ is ρ) fun ps => ps.length = is.length ∧ P ps
  | [], P, h => ⟨rfl, h⟩
  | i :: is, P, h => by
    unfold evEs at h ⊢
    cases e : evE Φ i ρ with
    | ex c as => rw [e] at h; exact h
    | bad => rw [e] at h; exact h
    | ok z =>
      rw [e] at h
      have h := evEs_len (RP.bind (show RP W ((evEs Φ is ρ).bind fun ps => R.ok (z :: ps)) P from h))
      show RP W ((evEs Φ is ρ).bind fun ps => R.ok (z :: ps)) _
      cases e2 : evEs Φ is ρ with
      | ex c as => rw [e2] at h; exact h
      | bad => rw [e2] at h; exact h
      | ok zs =>
        rw [e2] at h
        exact ⟨by show zs.length + 1 = is.length + 1; rw [h.1], h.2⟩
theorem small_line {n m : Nat} (h : n = m) (k : m ≤ 1000) : n ≤ sizeLine := by rw [sizeLine_eq]; omega
theorem se_tup {k : Nat} (hs : SA T es is) (hl : is.length ≤ 1000) : SE T (.Tuple es k pos) (.tup is) := by
  refine ⟨rfl, fun Y W Φ X ok => PE.imp (pe_tup (hs.2 Y W Φ X ok)) fun σ H Q ⟨ρ, F, H0, er, h⟩ => ?_⟩
  unfold evE at h
  refine ⟨ρ, F, H0, er, (evEs_len (RP.bind h)).mono fun ps ⟨el, hp⟩ vs H1 s1 r1 => ⟨small_line (r1.length.trans el) hl, fun q hq => ?_⟩⟩
  have R := new_tup hq ((er.grow s1).ftX _) r1
  exact hp (.ref q) _ (s1.trans (upd_same_grow hq)) (repR_of R.1 rfl) (.of R.1)
theorem se_lst (hs : SA T es is) (hl : is.length ≤ 1000) : SE T (.List es pos) (.lst is) := by
  refine ⟨rfl, fun Y W Φ X ok => PE.imp (pe_lst (hs.2 Y W Φ X ok)) fun σ H Q ⟨ρ, F, H0, er, h⟩ => ?_⟩
  unfold evE at h
  refine ⟨ρ, F, H0, er, (evEs_len (RP.bind h)).mono fun ps ⟨el, hp⟩ vs H1 s1 r1 => ⟨small_line (r1.length.trans el) hl, fun q hq => ?_⟩⟩
  have R := new_list hq ((er.grow s1).ftX _) r1
  exact hp (.ref q) _ (s1.trans (upd_same_grow hq)) (R.sub (fun _ z => z) s1) (.of R.1)
theorem se_rep {n : Expr} {k : E} (hs : SA T es is) (hl : is.length ≤ 1000) (hn : SE T n k) : SE T (.BinOp (.List es p2) .Mult n pos) (.rep is k) := by
  refine ⟨rfl, fun Y W Φ X ok => PE.imp (pe_op op_rep (pe_lst (hs.2 Y W Φ X ok)) (hn.2 Y W Φ X ok)) fun σ H Q ⟨ρ, F, H0, er, h⟩ => ?_⟩
  unfold evE at h
  refine ⟨ρ, F, H0, er, (evEs_len (RP.bind h)).mono fun ps ⟨el, hp⟩ vs H1 s1 r1 => ⟨small_line (r1.length.trans el) hl, fun q hq => ?_⟩⟩
  have s2 := upd_same_grow (o := .lst vs) hq
  have er2 := (er.grow s1).grow s2
  refine ⟨ρ, F, H0, er2, (RP.bind hp).mono fun y hy v H3 s3 r3 i3 => ?_⟩
  cases y with
  | int j =>
    have hj : intV (.int j) = .ok j := rfl
    rw [hj] at hy
    have hy2 := RP.bind hy
    have hy3 := RP.ok hy2
    obtain ⟨c, hy⟩ := RP.guard hy3
    rw [Bool.and_eq_true, Bool.and_eq_true] at c
    have r4 := (r1.same ((er.grow s1).ftX _) s2).same (er2.ftX _) s3
    refine ⟨q, j, vs, rfl, two_int i3, s3 _ _ upd_same, of_decide_eq_true c.1.1, of_decide_eq_true c.1.2, by rw [r1.length]; exact fits_le c.2, fun u hu => ?_⟩
    have R := new_list hu ((er2.grow s3).ftX _) (r4.rep j.toNat)
    have sm := s1.trans (s2.trans s3)
    exact hy (.ref u) _ (sm.trans (upd_same_grow hu)) (R.sub (fun _ z => z) sm) (.of R.1)
  | _ => exact False.elim hy
theorem se_idx (ha : SE T a ia) (hb : SE T b ib) : SE T (.Subscript a b pos) (.idx ia ib) := by
  refine ⟨rfl, fun Y W Φ X ok => PE.imp (pe_ix ix_all (ha.2 Y W Φ X ok) (hb.2 Y W Φ X ok) (plainE_ix hb.1)) fun σ H Q ⟨ρ, F, H0, er, h⟩ => ?_⟩
  unfold evE at h
  refine ⟨ρ, F, H0, er, (RP.bind h).mono fun x hx v1 H1 s1 r1 i1 => ?_⟩
  have er1 := er.grow s1
  refine ⟨ρ, F, H0, er1, (RP.bind hx).mono fun y hy v2 H2 s2 r2 i2 => ?_⟩
  refine ⟨x, y, FX F (lkI ia ++ lkI ib) σ ρ, (er1.grow s2).ftX _, (i1.same (er1.ftX _) s2).sub FX.l, i2.sub FX.r, W, hy.mono fun z hz v3 H3 s3 r3 => ?_⟩
  exact hz v3 H3 (s1.trans (s2.trans s3)) (r3.sub (fun _ q => q) (s1.trans s2)) (.of r3.1)
theorem so_none : SO T none none := fun Y W Φ X ok => ⟨fun pins s σ H Q I ⟨ρ, F, H0, er, h⟩ => po_none.run pins s σ H Q I (h H (Same.refl H))⟩
theorem so_some (ha : SE T a ia) : SO T (some a) (some ia) := fun Y W Φ X ok => ⟨fun pins s σ H Q I ⟨ρ, F, H0, er, h⟩ => by
  refine (po_some (ha.2 Y W Φ X ok)).run pins s σ H Q I ?_
  unfold evO at h
  refine ⟨ρ, F, H0, er, (RP.bind h).mono fun x hx v1 H1 s1 r1 i1 => ?_⟩
  cases x with
  | int i => exact ⟨i, two_int i1, hx H1 s1⟩
  | _ => exact False.elim hx⟩
theorem se_sl {lo hi : Option Expr} {il ih : Option E} (ha : SE T a ia) (hl : SO T lo il) (hh : SO T hi ih) : SE T (.Subscript a (.Slice lo hi none p2) pos) (.sl ia il ih) := by
  refine ⟨rfl, fun Y W Φ X ok => PE.imp (pe_slice sl_all (ha.2 Y W Φ X ok) (hl Y W Φ X ok) (hh Y W Φ X ok)) fun σ H Q ⟨ρ, F, H0, er, h⟩ => ?_⟩
  unfold evE at h
  refine ⟨ρ, F, H0, er, (RP.bind h).mono fun x hx v1 H1 s1 r1 i1 => ?_⟩
  have er1 := er.grow s1
  refine ⟨ρ, F, H0, er1, (RP.bind hx).mono fun l hl H2 s2 => ?_⟩
  have er2 := er1.grow s2
  refine ⟨ρ, F, H0, er2, (RP.bind hl).mono fun u hu H3 s3 => ?_⟩
  refine ⟨x, FX F (lkI ia) σ ρ, (er2.grow s3).ftX _, (i1.same (er1.ftX _) s2).same (er2.ftX _) s3, W, hu.mono fun z hz v4 H4 s4 r4 => ?_⟩
  exact hz v4 H4 (s1.trans (s2.trans (s3.trans s4))) (r4.sub (fun _ q => q) (s1.trans (s2.trans s3))) (.of r4.1)
section
variable {X : Cx} {CX : CXT} {k : Nat} {f : Addr} {fd : FuncData} {ps : List Str} {sp : Sp} {dvs : List V} {ds : List Value} {E : XK} {x : Str} {p pos : Pos} {e : Expr} {es : List Expr} {t : TA} {B : Hp}
/-- the callee runs; an exception that it lets out is wished for at heaps that go on from B -/
theorem run_fnH {pins : List (Addr × Obj)} {σ : L2.St} {H : Hp} {s : Shared} {Q : VK} {us : List Value} {vs : List V} (F : FnOk X.prog X.w X.K X.mg X.base CX k f fd ps sp) (hr : Room k X.A) (hb : Binds X.K fd ps ds) (hd : Vals dvs ds)
    (hx : ∀ (pins : List (Addr × Obj)) (σ : L2.St) (H : Hp) (s : Shared) (e : Value) (s' : Shared), Same B H → Inv X pins σ H s → CX X.stack H s E e s' → X.xe e s')
    (I : Inv X pins σ H s) (r : Vals vs us) (sm : Same B H) (h : sp (vs ++ dvs) H Q E) : wpAny (model X.prog X.w) X.A (PySem.call (.ref f) us) (EP X pins σ Q) X.xe s := by
  have r2 : Vals (vs ++ dvs) (us ++ ds) := r.append hd
  have hl : (us ++ ds).length = ps.length := by rw [← r2.length]; exact F.len _ _ _ _ h
  refine wpAny_call (codeAny_mono (F.run X.A X.stack s H ⟨us, []⟩ (us ++ ds) (vs ++ dvs) Q E hr I.env0 (hb s us I.kIn hl) r2 h) fun r s' hq => ?_)
  cases r with
  | error e => exact hx pins σ H s e s' sm I hq
  | ok fl =>
    cases fl with
    | ret u => exact I.after hq
    | next => exact False.elim hq
    | brk => exact False.elim hq
    | cont => exact False.elim hq
theorem pe_callH (F : FnOk X.prog X.w X.K X.mg X.base CX k f fd ps sp) (hr : Room k X.A) (hg : Gl X x) (hm : X.mg x = some (.ref f)) (hk : PySem.W.keepIn X.K (.ref f) = true) (hb : Binds X.K fd ps ds) (hd : Vals dvs ds)
    (hx : ∀ (pins : List (Addr × Obj)) (σ : L2.St) (H : Hp) (s : Shared) (e : Value) (s' : Shared), Same B H → Inv X pins σ H s → CX X.stack H s E e s' → X.xe e s')
    (ha : PA X (e :: es) t) (hdb : (x == ("__debug__" : Str)) = false) (he : starEach (e :: es) X.env = (false, eval e X.env) :: starEach es X.env) (hpl : (backTo pos (starEach es X.env)).any (·.1) = false) :
    PE X (.Call (.Name x p) (e :: es) [] pos) (fun σ H Q => t σ H fun vs H1 => Same B H1 ∧ sp (vs ++ dvs) H1 Q E) := by
  refine ⟨fun pins s σ H Q I h => ?_⟩
  refine wpAny_Call_Name_kw (ld_glob I hg hm ?_ hdb)
  refine PySem.W.callWith_K (h₀ := X.base) I.ok.mod.kin hk (thn (ha.run pos pins s σ H _ I h) fun us s1 ⟨vs, H1, I1, r, sm, q⟩ => ⟨I1.kIn, ?_⟩) he hpl
  exact run_fnH F hr hb hd hx I1 r sm q
theorem pe_call0H (F : FnOk X.prog X.w X.K X.mg X.base CX k f fd ps sp) (hr : Room k X.A) (hg : Gl X x) (hm : X.mg x = some (.ref f)) (hk : PySem.W.keepIn X.K (.ref f) = true) (hb : Binds X.K fd ps ds) (hd : Vals dvs ds)
    (hx : ∀ (pins : List (Addr × Obj)) (σ : L2.St) (H : Hp) (s : Shared) (e : Value) (s' : Shared), Same B H → Inv X pins σ H s → CX X.stack H s E e s' → X.xe e s')
    (hdb : (x == ("__debug__" : Str)) = false) : PE X (.Call (.Name x p) [] [] pos) (fun σ H Q => Same B H ∧ sp ([] ++ dvs) H Q E) := by
  refine ⟨fun pins s σ H Q I h => ?_⟩
  refine wpAny_Call_Name_kw (ld_glob I hg hm ?_ hdb)
  exact PySem.W.callWith_K0 I.kIn hk (run_fnH (us := []) (vs := []) F hr hb hd hx I .nil h.1 h.2)
end
theorem call_read {Y : Xsys} {W : XW} {Φ : Nat → List PyData → R PyData} {X : Cx} {n : Nat} {I : FnI} {dvs : List V} {ds : List PyData} {σ : L2.St} {H : Hp} {Q : VK}
    (hl : is.length + ds.length = I.ps.length) (hd : ∀ F H, Reps X.K F H ds dvs) (h : rd (Y.kb X.K) W (evE Φ (.call n I.fr is ds)) (lks is) (lks is) I.fr σ H Q) :
    rdA (Y.kb X.K) W (evEs Φ is) (lks is) σ H fun vs H1 => Same Y.B H1 ∧ spF X.K I.fr (Φ n) I.ps.length (vs ++ dvs) H1 Q (EKc X.K W) := by
  obtain ⟨ρ, F, H0, er, h⟩ := h
  unfold evE at h
  refine ⟨ρ, F, H0, er, (evEs_len (RP.bind h)).mono fun ps ⟨el, hp⟩ vs H1 s1 r1 => ?_⟩
  have rd2 := hd (FX F (lks is) σ ρ) H1
  refine ⟨(er.bs.trans er.same).trans s1, by rw [List.length_append, r1.length, rd2.length, el]; exact hl, FX F (lks is) σ ρ, ps ++ ds, (er.grow s1).ftX _, r1.append rd2, ?_⟩
  cases e : Φ n (ps ++ ds) with
  | ok z =>
    rw [e] at hp
    exact fun v H' s r => hp v H' (s1.trans s) (r.sub (fun _ z => z) s1) (.of r.1)
  | ex c as => rw [e] at hp; exact fun cls d H' _ r => ⟨c, as, hp, r⟩
  | bad => rw [e] at hp; exact hp.elim
theorem se_call {n j : Nat} {I : FnI} (hcm : T.cm = true) (hg : gloB T.scope x = true) (hn : nameB x = true) (hf : T.fns.lookup x = some (n, I)) (hs : SA T (e :: es) (ie :: is)) (hj : j ≤ I.ds.length) (hl : (ie :: is).length + (I.ds.drop j).length = I.ps.length) :
    SE T (.Call (.Name x p) (e :: es) [] pos) (.call n I.fr (ie :: is) (I.ds.drop j)) := by
  refine ⟨rfl, fun Y W Φ X ok => ?_⟩
  obtain ⟨n1, _, _⟩ := nameB_ok hn
  obtain ⟨f, fd, hm, hk, G, hb⟩ := ok.fns x n I hf
  obtain ⟨ds, dvs, hb, hd, hr⟩ := hb j hj
  have pl := hs.1
  rw [List.all_cons, Bool.and_eq_true] at pl
  refine PE.imp (pe_callH G (ok.room hcm) (gloB_ok ok hg) hm hk hb hd ok.pass (hs.2 Y W Φ X ok) n1 (plainE_star pl.1 _ _) (plainEs_star _ _ pl.2)) fun σ H Q h => ?_
  exact call_read (Y := Y) hl hr h
theorem se_call0 {n j : Nat} {I : FnI} (hcm : T.cm = true) (hg : gloB T.scope x = true) (hn : nameB x = true) (hf : T.fns.lookup x = some (n, I)) (hj : j ≤ I.ds.length) (hl : (I.ds.drop j).length = I.ps.length) :
    SE T (.Call (.Name x p) [] [] pos) (.call n I.fr [] (I.ds.drop j)) := by
  refine ⟨rfl, fun Y W Φ X ok => ?_⟩
  obtain ⟨n1, _, _⟩ := nameB_ok hn
  obtain ⟨f, fd, hm, hk, G, hb⟩ := ok.fns x n I hf
  obtain ⟨ds, dvs, hb, hd, hr⟩ := hb j hj
  refine PE.imp (pe_call0H G (ok.room hcm) (gloB_ok ok hg) hm hk hb hd ok.pass n1) fun σ H Q h => ?_
  have := call_read (Y := Y) (is := []) (by simpa using hl) hr h
  obtain ⟨ρ, F, H0, er, h⟩ := this
  exact h [] H (Same.refl H) (by unfold Reps; trivial)
/-! ### built-in functions -/
/-- what a built-in's rule gives for biV -/
def BiR (K : PySem.W.Frag) (b : Bi) (fr : Bool) : List V → Hp → VK → Prop := fun vs H Q => ∃ (G : Addr → Prop) (ps : List PyData) (W : XW), FT G H ∧ Reps K G H ps vs ∧ RP W (biV b ps) fun p => ∀ v H', Same H H' → RepR K G H H' fr p v → Q v H'
theorem reps1 {K : PySem.W.Frag} {G : Addr → Prop} {H : Hp} {p : PyData} {vs : List V} (h : Reps K G H [p] vs) : ∃ v, vs = [v] ∧ Rep K G H p v := by
  cases vs with
  | nil => unfold Reps at h; exact h.elim
  | cons v vs =>
    unfold Reps at h
    cases vs with
    | nil => exact ⟨v, rfl, h.1⟩
    | cons _ _ => have := h.2; unfold Reps at this; exact this.elim
theorem reps2 {K : PySem.W.Frag} {G : Addr → Prop} {H : Hp} {p q : PyData} {vs : List V} (h : Reps K G H [p, q] vs) : ∃ v w, vs = [v, w] ∧ Rep K G H p v ∧ Rep K G H q w := by
  cases vs with
  | nil => unfold Reps at h; exact h.elim
  | cons v vs =>
    unfold Reps at h
    obtain ⟨w, rfl, r⟩ := reps1 h.2
    exact ⟨v, w, rfl, h.1, r⟩
theorem reps3 {K : PySem.W.Frag} {G : Addr → Prop} {H : Hp} {p q r : PyData} {vs : List V} (h : Reps K G H [p, q, r] vs) : ∃ v w z, vs = [v, w, z] ∧ Rep K G H p v ∧ Rep K G H q w ∧ Rep K G H r z := by
  cases vs with
  | nil => unfold Reps at h; exact h.elim
  | cons v vs =>
    unfold Reps at h
    obtain ⟨w, z, rfl, r1, r2⟩ := reps2 h.2
    exact ⟨v, w, z, rfl, h.1, r1, r2⟩
def biName : Bi → Str
  | .len => "len"
  | .list1 => "list"
  | .tuple1 => "tuple"
  | .max2 => "max"
  | .min2 => "min"
  | .int1 => "int"
  | .sorted1 => "sorted"
  | .sum1 => "sum"
  | .max1 => "max"
  | .any1 => "any"
  | .str1 => "str"
/-- the reading of a call of a built-in, from its rule -/
theorem bi_read {K : KB} {W : XW} {Φ : Nat → List PyData → R PyData} {bb : Bi} {σ : L2.St} {H : Hp} {Q : VK} (h : rd K W (evE Φ (.bi bb is)) (lks is) (lks is) (fresh (.bi bb is)) σ H Q) :
    tCB (BiR K bb (fresh (.bi bb is))) (rdA K W (evEs Φ is) (lks is)) σ H Q := by
  obtain ⟨ρ, F, H0, er, h⟩ := h
  unfold evE at h
  refine ⟨ρ, F, H0, er, (RP.bind h).mono fun ps hp vs H1 s1 r1 => ?_⟩
  exact ⟨FX F (lks is) σ ρ, ps, W, (er.grow s1).ftX _, r1, hp.mono fun z hz v H' s r => hz v H' (s1.trans s) (r.sub (fun _ q => q) s1) (.of r.1)⟩
theorem CallR.imp {X : Cx} {f : Value} {r r' : List V → Hp → VK → Prop} (h : CallR X f r) (i : ∀ vs H Q, r' vs H Q → r vs H Q) : CallR X f r' := fun pins s σ H xs us Q I rv q => h pins s σ H xs us Q I rv (i _ _ _ q)
theorem bi_one {W : XW} {b : Bi} {ps : List PyData} {P : PyData → Prop} (h : RP W (biV b ps) P) (h2 : ∀ x y, bi2 b x y = .bad) : ∃ x, ps = [x] ∧ RP W (bi1 b x) P := by
  match ps, h with
  | [], h => exact False.elim h
  | [x], h => exact ⟨x, rfl, h⟩
  | [x, y], h =>
    have h : RP W (bi2 b x y) P := h
    rw [h2] at h
    exact False.elim h
  | _ :: _ :: _ :: _, h => exact False.elim h
theorem bi_two {W : XW} {b : Bi} {ps : List PyData} {P : PyData → Prop} (h : RP W (biV b ps) P) (h2 : ∀ x, bi1 b x = .bad) : ∃ x y, ps = [x, y] ∧ RP W (bi2 b x y) P := by
  match ps, h with
  | [], h => exact False.elim h
  | [x], h =>
    have h : RP W (bi1 b x) P := h
    rw [h2] at h
    exact False.elim h
  | [x, y], h => exact ⟨x, y, rfl, h⟩
  | _ :: _ :: _ :: _, h => exact False.elim h
theorem bi_len {X : Cx} {fr : Bool} : CallR X (.builtin "len") (BiR X.K .len fr) := CallR.imp call_len fun vs H Q ⟨G, ps, W, ft, r, h⟩ => by
  obtain ⟨x, rfl, h⟩ := bi_one h fun _ _ => rfl
  obtain ⟨v, rfl, r1⟩ := reps1 r
  cases x with
  | list xs =>
    unfold Rep at r1
    obtain ⟨a, ws, rfl, ls, r⟩ := r1
    exact ⟨_, xs.length, rfl, .inl ⟨ws, ls.sql, r.length.symm⟩, h _ H (Same.refl H) (repR_of rep_int rfl)⟩
  | tuple xs =>
    unfold Rep at r1
    obtain ⟨a, ws, rfl, sq, r⟩ := r1
    exact ⟨_, xs.length, rfl, .inr ⟨ws, sq, r.length.symm⟩, h _ H (Same.refl H) (repR_of rep_int rfl)⟩
  | str y =>
    unfold Rep at r1
    subst r1
    obtain ⟨c, h⟩ := RP.guard (show RP W (guardR (decide (y.length ≤ sizeLine)) (R.ok (PyData.int (y.length : Nat)))) _ from h)
    exact ⟨_, y.length, rfl, ⟨of_decide_eq_true c, rfl⟩, h _ H (Same.refl H) (repR_of rep_int rfl)⟩
  | _ => exact False.elim h
theorem bi_list {X : Cx} : CallR X (.type "list") (BiR X.K .list1 true) := CallR.imp call_list_of fun vs H Q ⟨G, ps, W, ft, r, h⟩ => by
  obtain ⟨x, rfl, h⟩ := bi_one h fun _ _ => rfl
  obtain ⟨v, rfl, r1⟩ := reps1 r
  cases x with
  | list xs =>
    unfold Rep at r1
    obtain ⟨a, ws, rfl, ls, r⟩ := r1
    exact ⟨a, ws, rfl, .inl ls.sql, fun l hl => h _ _ (upd_same_grow hl) (new_list hl ft r)⟩
  | tuple xs =>
    unfold Rep at r1
    obtain ⟨a, ws, rfl, sq, r⟩ := r1
    exact ⟨a, ws, rfl, .inr sq, fun l hl => h _ _ (upd_same_grow hl) (new_list hl ft r)⟩
  | _ => exact False.elim h
theorem bi_tuple {X : Cx} {fr : Bool} : CallR X (.type "tuple") (BiR X.K .tuple1 fr) := CallR.imp call_tuple_of fun vs H Q ⟨G, ps, W, ft, r, h⟩ => by
  obtain ⟨x, rfl, h⟩ := bi_one h fun _ _ => rfl
  obtain ⟨v, rfl, r1⟩ := reps1 r
  cases x with
  | list xs =>
    unfold Rep at r1
    obtain ⟨a, ws, rfl, ls, r⟩ := r1
    exact ⟨a, ws, rfl, .inl ⟨ls.sql, fun l hl => h _ _ (upd_same_grow hl) (repR_of (new_tup hl ft r).1 rfl)⟩⟩
  | tuple xs =>
    have r0 := r1
    unfold Rep at r1
    obtain ⟨a, ws, rfl, sq, r⟩ := r1
    exact ⟨a, ws, rfl, .inr ⟨sq, h _ H (Same.refl H) (repR_of r0 rfl)⟩⟩
  | _ => exact False.elim h
theorem rep_int_v {K : PySem.W.Frag} {G : Addr → Prop} {H : Hp} {i : Int} {v : V} (h : Rep K G H (.int i) v) : v = .int i := by unfold Rep at h; exact h
theorem bi_max2 {X : Cx} {fr : Bool} (hc : X.calm = true) : CallR X (.builtin "max") (BiR X.K .max2 fr) := CallR.imp (call_max2 hc) fun vs H Q ⟨G, ps, W, ft, r, h⟩ => by
  obtain ⟨x, y, rfl, h⟩ := bi_two h fun _ => rfl
  obtain ⟨v, w, rfl, r1, r2⟩ := reps2 r
  cases x with
  | int i =>
    cases y with
    | int j =>
      have e1 := rep_int_v r1
      have e2 := rep_int_v r2
      subst e1 e2
      exact ⟨i, j, rfl, h _ H (Same.refl H) (repR_of rep_int rfl)⟩
    | _ => exact False.elim h
  | _ => exact False.elim h
theorem bi_min2 {X : Cx} {fr : Bool} (hc : X.calm = true) : CallR X (.builtin "min") (BiR X.K .min2 fr) := CallR.imp (call_min2 hc) fun vs H Q ⟨G, ps, W, ft, r, h⟩ => by
  obtain ⟨x, y, rfl, h⟩ := bi_two h fun _ => rfl
  obtain ⟨v, w, rfl, r1, r2⟩ := reps2 r
  cases x with
  | int i =>
    cases y with
    | int j =>
      have e1 := rep_int_v r1
      have e2 := rep_int_v r2
      subst e1 e2
      exact ⟨i, j, rfl, h _ H (Same.refl H) (repR_of rep_int rfl)⟩
    | _ => exact False.elim h
  | _ => exact False.elim h
theorem bi_str {X : Cx} {fr : Bool} : CallR X (.type "str") (BiR X.K .str1 fr) := fun pins s σ H xs us Q I rv ⟨G, ps, W, ft, r, h⟩ => by
  obtain ⟨x, rfl, h⟩ := bi_one h fun _ _ => rfl
  obtain ⟨v, rfl, r1⟩ := reps1 r
  cases x with
  | int i =>
    have e1 := rep_int_v r1
    subst e1
    obtain ⟨c, h⟩ := RP.guard (show RP W (guardR (decide (i.natAbs.log2 < 1920)) (R.ok (PyData.str (Str.ofString (toString i))))) _ from h)
    exact call_str_int pins s σ H _ us Q I rv ⟨i, rfl, of_decide_eq_true c, h _ H (Same.refl H) (repR_of (by unfold Rep; rfl) rfl)⟩
  | str y =>
    unfold Rep at r1
    subst r1
    have q := h (.str y) H (Same.refl H) (repR_of (by unfold Rep; rfl) rfl)
    obtain ⟨u, rfl, t, rfl⟩ := vals1 rv
    exact PySem.P.str_of_str ⟨.str y, H, I, ⟨t, rfl⟩, q⟩
  | _ => exact False.elim h
theorem bi_int {X : Cx} {fr : Bool} : CallR X (.type "int") (BiR X.K .int1 fr) := fun pins s σ H xs us Q I rv ⟨G, ps, W, ft, r, h⟩ => by
  obtain ⟨x, rfl, h⟩ := bi_one h fun _ _ => rfl
  obtain ⟨v, rfl, r1⟩ := reps1 r
  cases x with
  | int i =>
    have e1 := rep_int_v r1
    subst e1
    exact call_int1 pins s σ H _ us Q I rv (.inl ⟨i, rfl, h _ H (Same.refl H) (repR_of rep_int rfl)⟩)
  | bool i =>
    unfold Rep at r1
    subst r1
    refine call_int1 pins s σ H _ us Q I rv (.inr ⟨i, rfl, ?_⟩)
    have h2 := h _ H (Same.refl H) (repR_of rep_int rfl)
    cases i <;> exact h2
  | str y =>
    unfold Rep at r1
    subst r1
    have h : RP W (match PySem.intText? y with
      | some n => guardR (decide (y.length ≤ 640)) (R.ok (PyData.int n))
      | none => .bad) _ := h
    cases e : PySem.intText? y with
    | none => rw [e] at h; exact h.elim
    | some n =>
      rw [e] at h
      obtain ⟨c, h⟩ := RP.guard h
      exact call_int_str pins s σ H _ us Q I rv ⟨y, n, rfl, e, of_decide_eq_true c, h _ H (Same.refl H) (repR_of rep_int rfl)⟩
  | _ => exact False.elim h
theorem insI_perm (i : Int) : ∀ l : List Int, (insI i l).Perm (i :: l)
  | [] => .refl _
  | j :: l => by
    unfold insI
    split
    · exact .refl _
    · exact ((insI_perm i l).cons j).trans (.swap i j l)
theorem sortI_perm : ∀ l : List Int, (sortI l).Perm l
  | [] => .refl _
  | i :: l => (insI_perm i (sortI l)).trans ((sortI_perm l).cons i)
theorem insI_sorted (i : Int) : ∀ l : List Int, l.Pairwise (· ≤ ·) → (insI i l).Pairwise (· ≤ ·)
  | [], _ => by unfold insI; simp
  | j :: l, h => by
    unfold insI
    rw [List.pairwise_cons] at h
    split
    · rename_i c
      rw [List.pairwise_cons, List.pairwise_cons]
      refine ⟨fun k hk => ?_, h⟩
      rcases List.mem_cons.mp hk with rfl | hk
      · exact c
      · exact Int.le_trans c (h.1 k hk)
    · rename_i c
      rw [List.pairwise_cons]
      refine ⟨fun k hk => ?_, insI_sorted i l h.2⟩
      rcases List.mem_cons.mp ((insI_perm i l).mem_iff.mp hk) with rfl | hk
      · omega
      · exact h.1 k hk
theorem sortI_sorted : ∀ l : List Int, (sortI l).Pairwise (· ≤ ·)
  | [] => .nil
  | i :: l => insI_sorted i _ (sortI_sorted l)
theorem sorted_one : ∀ {l m : List Int}, l.Perm m → l.Pairwise (· ≤ ·) → m.Pairwise (· ≤ ·) → l = m
  | [], m, p, _, _ => (List.nil_perm.mp p).symm
  | i :: l, m, p, h, g => by
    cases m with
    | nil => exact absurd p.length_eq (by simp)
    | cons j m =>
      rw [List.pairwise_cons] at h g
      have e : i = j := by
        have h1 : i ∈ j :: m := p.mem_iff.mp List.mem_cons_self
        have h2 : j ∈ i :: l := p.mem_iff.mpr List.mem_cons_self
        rcases List.mem_cons.mp h1 with h1 | h1
        · exact h1
        · rcases List.mem_cons.mp h2 with h2 | h2
          · exact h2.symm
          · exact Int.le_antisymm (h.1 j h2) (g.1 i h1)
      subst e
      rw [sorted_one (List.Perm.cons_inv p) h.2 g.2]
theorem ints_ok {K : PySem.W.Frag} {G : Addr → Prop} {H : Hp} : ∀ {ps : List PyData} {vs : List V} {ns : List Int}, intsP ps = some ns → Reps K G H ps vs → vs = ns.map V.int ∧ ps = ns.map .int
  | [], [], ns, e, _ => by cases e; exact ⟨rfl, rfl⟩
  | p :: ps, v :: vs, ns, e, h => by
    unfold Reps at h
    cases p with
    | int i =>
      unfold intsP at e
      cases e2 : intsP ps with
      | none => rw [e2] at e; cases e
      | some ms =>
        rw [e2] at e
        cases e
        obtain ⟨f1, f2⟩ := ints_ok e2 h.2
        have e1 : v = .int i := by have := h.1; unfold Rep at this; exact this
        rw [f1, f2, e1]
        exact ⟨rfl, rfl⟩
    | _ => cases e
  | [], _ :: _, _, _, h => by unfold Reps at h; exact h.elim
  | _ :: _, [], _, _, h => by unfold Reps at h; exact h.elim
/-- ints or tuples, in a list or a tuple -/
theorem cr_sort2 {X : Cx} : CallR X (.builtin "sorted") (fun vs H Q => rSortX X.K vs H Q ∨ rSortIX X.K vs H Q) := fun pins s σ H vs us Q I r h => h.elim (cr_sortX pins s σ H vs us Q I r) (cr_sortIX pins s σ H vs us Q I r)
theorem sort_new {K : PySem.W.Frag} {G : Addr → Prop} {H : Hp} {W : XW} {a : Addr} {xs : List PyData} {ws : List V} {Q : V → Hp → Prop} (ft : FT G H) (hs : SqL K H a ws ∨ SqT K H a ws) (r : Reps K G H xs ws) (h : RP W (sortV xs) (fun p => ∀ v H', Same H H' → RepR K G H H' true p v → Q v H')) : rSortX K [.ref a] H Q ∨ rSortIX K [.ref a] H Q := by
  unfold sortV at h
  cases e : intsP xs with
  | some ns =>
    rw [e] at h
    obtain ⟨rfl, _⟩ := ints_ok e r
    refine .inr ⟨a, ns, rfl, hs, fun ms q pm so hq => ?_⟩
    obtain rfl : ms = sortI ns := sorted_one (pm.trans (sortI_perm ns).symm) so (sortI_sorted ns)
    exact h _ _ (upd_same_grow hq) (new_list hq ft (by
      have : ∀ l : List Int, Reps K G H (l.map .int) (l.map V.int) := fun l => by
        induction l with
        | nil => show Reps K G H [] []; unfold Reps; trivial
        | cons i l ih =>
          show Reps K G H (.int i :: l.map .int) (.int i :: l.map V.int)
          unfold Reps
          exact ⟨rep_int, ih⟩
      exact this _))
  | none =>
    rw [e] at h
    obtain ⟨c, h⟩ := RP.guard h
    rw [List.all_eq_true] at c
    have tx : ∀ i (y : PyData) (u : V), xs[i]? = some y → ws[i]? = some u → ∃ t its, u = .ref t ∧ SqT K H t its ∧ its ≠ [] ∧ vItems (fun i => decide (i = 0) && headS xs) 0 its = some (tupKeyP y) := fun i y u h1 h2 => by
      obtain ⟨v, ev, rv⟩ := r.get h1
      rw [h2] at ev
      cases ev
      exact tup_items (c y (List.mem_of_getElem? h1)) rv
    refine .inl ⟨a, ws, fun i => decide (i = 0) && headS xs, rfl, hs, fun x hx => ?_, fun k hk ys q s1 s2 hq => ?_⟩
    · obtain ⟨i, hi⟩ := List.getElem?_of_mem hx
      obtain ⟨y, hy⟩ : ∃ y, xs[i]? = some y := by
        have := r.length
        have hl : i < ws.length := (List.getElem?_eq_some_iff.mp hi).1
        exact ⟨xs[i]'(by omega), List.getElem?_eq_getElem (by omega)⟩
      obtain ⟨t, its, e1, e2, e3, e4⟩ := tx i y x hy hi
      exact ⟨t, its, _, e1, e2, e3, e4⟩
    · have key : ∀ (i : Nat) (y : PyData) (u : V), xs[i]? = some y → ws[i]? = some u → k u = tupKeyP y := fun i y u h1 h2 => by
        obtain ⟨t, its, rfl, e2, e3, e4⟩ := tx i y u h1 h2
        exact hk t its _ e2 e4
      obtain rfl := sortG_one (swo_ltK k) s1 s2
      exact h _ _ (upd_same_grow hq) (new_list hq ft (reps_sort r key).1)
theorem bi_sorted {X : Cx} : CallR X (.builtin "sorted") (BiR X.K .sorted1 true) := CallR.imp cr_sort2 fun vs H Q ⟨G, ps, W, ft, r, h⟩ => by
  obtain ⟨x, rfl, h⟩ := bi_one h fun _ _ => rfl
  obtain ⟨v, rfl, r1⟩ := reps1 r
  cases x with
  | list xs =>
    unfold Rep at r1
    obtain ⟨a, ws, rfl, ls, r⟩ := r1
    exact sort_new ft (.inl ls.sql) r h
  | tuple xs =>
    unfold Rep at r1
    obtain ⟨a, ws, rfl, ls, r⟩ := r1
    exact sort_new ft (.inr ls) r h
  | _ => exact False.elim h
theorem bools_ok {K : PySem.W.Frag} {G : Addr → Prop} {H : Hp} : ∀ {ps : List PyData} {vs : List V} {ns : List Bool}, boolsP ps = some ns → Reps K G H ps vs → vs = ns.map V.bl
  | [], [], ns, e, _ => by cases e; rfl
  | p :: ps, v :: vs, ns, e, h => by
    unfold Reps at h
    cases p with
    | bool i =>
      unfold boolsP at e
      cases e2 : boolsP ps with
      | none => rw [e2] at e; cases e
      | some ms =>
        rw [e2] at e
        cases e
        have f1 := bools_ok e2 h.2
        have e1 : v = .bl i := by have := h.1; unfold Rep at this; exact this
        rw [f1, e1]
        rfl
    | _ => cases e
  | [], _ :: _, _, _, h => by unfold Reps at h; exact h.elim
  | _ :: _, [], _, _, h => by unfold Reps at h; exact h.elim
theorem maxI_ok : ∀ (l : List Int) (m : Int), (maxI m l = m ∨ maxI m l ∈ l) ∧ m ≤ maxI m l ∧ ∀ y, y ∈ l → y ≤ maxI m l
  | [], m => ⟨.inl rfl, Int.le_refl _, fun y h => absurd h List.not_mem_nil⟩
  | i :: l, m => by
    obtain ⟨h1, h2, h3⟩ := maxI_ok l (if i > m then i else m)
    have e : maxI m (i :: l) = maxI (if i > m then i else m) l := rfl
    rw [e]
    generalize maxI (if i > m then i else m) l = x at *
    by_cases g : i > m
    · rw [if_pos g] at h1 h2
      refine ⟨.inr (h1.elim (fun z => by rw [z]; exact List.mem_cons_self) (List.mem_cons_of_mem _)), by omega, fun y hy => ?_⟩
      rcases List.mem_cons.mp hy with rfl | hy
      · exact h2
      · exact h3 y hy
    · rw [if_neg g] at h1 h2
      refine ⟨h1.elim .inl fun z => .inr (List.mem_cons_of_mem _ z), h2, fun y hy => ?_⟩
      rcases List.mem_cons.mp hy with rfl | hy
      · omega
      · exact h3 y hy
theorem bi_sum {X : Cx} (hc : X.calm = true) : CallR X (.builtin "sum") (BiR X.K .sum1 false) := CallR.imp (cr_sum hc) fun vs H Q ⟨G, ps, W, ft, r, h⟩ => by
  obtain ⟨x, rfl, h⟩ := bi_one h fun _ _ => rfl
  obtain ⟨v, rfl, r1⟩ := reps1 r
  cases x with
  | list xs =>
    unfold Rep at r1
    obtain ⟨a, ws, rfl, ls, r⟩ := r1
    have h : RP W (match intsP xs with | some ns => okI ns.sum | none => .bad) (fun p => ∀ v H', Same H H' → RepR X.K G H H' false p v → Q v H') := h
    cases e : intsP xs with
    | none => rw [e] at h; exact h.elim
    | some ns =>
      rw [e] at h
      obtain ⟨rfl, _⟩ := ints_ok e r
      exact ⟨a, ns, rfl, ls.sql, h _ H (Same.refl H) (repR_of rep_int rfl)⟩
  | _ => exact False.elim h
def rMaxT (K : PySem.W.Frag) : List V → Hp → VK → Prop := fun vs H Q => ∃ (a : Addr) (ns : List Int), vs = [V.ref a] ∧ SqT K H a (ns.map V.int) ∧ 0 < ns.length ∧ ∀ m, m ∈ ns → (∀ y, y ∈ ns → y ≤ m) → Q (.int m) H
theorem vals_int_get : ∀ {ns : List Int} {its : List Value} {i : Nat} {v : Value}, Vals (ns.map V.int) its → its[i]? = some v → ∃ t, v = Value.int (ns.getD i 0) t
  | [], its, i, v, h, e => by
    have := h.length
    have l : its.length = 0 := by simpa using this.symm
    rw [List.length_eq_zero_iff.mp l] at e
    simp at e
  | n :: ns, _, i, v, h, e => by
    cases h with
    | cons r t =>
      cases i with
      | zero =>
        obtain ⟨t1, rfl⟩ := r
        simp at e
        exact ⟨t1, e.symm⟩
      | succ i =>
        have := vals_int_get (i := i) t (by simpa using e)
        simpa using this
theorem cr_maxT {X : Cx} (hc : X.calm = true) : CallR X (.builtin "max") (rMaxT X.K) := by
  intro pins s σ H vs us Q I r h
  obtain ⟨a, ns, rfl, hs, hp, q⟩ := h
  obtain ⟨its, rv, tup, hz⟩ := I.tuple hs
  rw [Vals.ref1 r]
  have hi := rv.ints
  have hh : X.A.handled = none := I.ok.hd hc
  obtain ⟨o, ho, hcl, nn, hd⟩ := id tup
  have hlt : a < s.heap.objs.size := Heap.lt_size ho
  refine call_max_walkS (wpAny_pyIter_tuple tup ?_)
  refine ⟨s.heap.objs.size, [s.heap.objs.size, a], [s.heap.objs.size], _, its.toArray.size, _, _, _, rfl, Walks.toS (Walks.tuple (A := X.A.in1) hh s.heap.objs.size a (Nat.ne_of_lt hlt) its.toArray), ?_, ?_, ?_, CmpOf.ints_gt (fun i => ns.getD i 0) ?_, ?_⟩
  · exact ⟨⟨_, Heap.get?_push_size _ rfl, rfl, rfl⟩, ⟨o, Heap.get?_push_of_some _ ho, hcl, nn, hd⟩⟩
  · intro b hb
    have sz : (s.heap.push { cls := Value.type "tuple_iterator", data := Data.fields #[Value.ref a, Value.int 0 0] }).objs.size = s.heap.objs.size + 1 := by unfold Heap.push; simp
    show b < (s.heap.push { cls := Value.type "tuple_iterator", data := Data.fields #[Value.ref a, Value.int 0 0] }).objs.size
    rw [sz]
    rcases (show b = s.heap.objs.size ∨ b = a by simpa using hb) with h | h
    · rw [h]; exact Nat.lt_succ_self _
    · rw [h]; exact Nat.lt_succ_of_lt hlt
  · have h2 : ns.length = its.length := by simpa using rv.length
    show 0 < its.toArray.size
    rw [List.size_toArray, ← h2]
    exact hp
  · intro i v hv
    exact vals_int_get rv (by simpa using hv)
  · intro v s' hv mv
    have lz : ns.length = its.length := by simpa using rv.length
    obtain ⟨b1, b2⟩ := argBest_gt (fun i => ns.getD i 0) (its.toArray.size - 1)
    generalize argBest (fun i j => decide (ns.getD i 0 > ns.getD j 0)) (its.toArray.size - 1) = j at *
    obtain ⟨t, rfl⟩ := vals_int_get rv (show its[j]? = some v by simpa using hv)
    rw [List.size_toArray] at b1 b2
    have hj : j < ns.length := by omega
    have es : s' = { heap := s'.heap, gens := s.gens, drawn := s.drawn, toks := s'.toks, os := s.os } := by
      have g1 := mv.gens
      have g2 := mv.drawn
      have g3 := mv.os
      cases s'
      simp at g1 g2 g3
      simp [g1, g2, g3]
    have st : s.heap.StaysIn s'.heap := fun b u hb => mv.heap b u (fun hm => by
      have h1 := Heap.lt_size hb
      have h2 : b = s.heap.objs.size := by simpa using hm
      rw [h2] at h1
      exact absurd h1 (Nat.lt_irrefl _)) (Heap.get?_push_of_some _ hb)
    refine ⟨.int (ns.getD j 0), H, ?_, ⟨t, rfl⟩, q _ ?_ ?_⟩
    · rw [es]
      exact I.call (ch := []) (h' := s'.heap) (g' := s.gens) (t' := s'.toks) (d' := s.drawn) (H' := H) ⟨fun b o e _ _ _ => st b o e, fun b o e _ _ _ => ⟨o.slots, st b o e⟩, fun b o e n _ => n, fun b o e _ => ⟨o, st b o e⟩, fun b xs e => e, fun b o xs e => e, fun b ps e => ⟨#[], by rw [e]; simp⟩⟩ (I.hok.kept st) I.bare (fun _ z => nomatch z)
    · rw [List.getD_eq_getElem?_getD, List.getElem?_eq_getElem hj]
      exact List.getElem_mem hj
    · intro y hy
      obtain ⟨k, hk⟩ := List.getElem?_of_mem hy
      have hkl := (List.getElem?_eq_some_iff.mp hk).1
      have := b2 k (by omega)
      rw [List.getD_eq_getElem?_getD (i := k), hk] at this
      exact this
theorem cr_maxX {X : Cx} (hc : X.calm = true) : CallR X (.builtin "max") (fun vs H Q => rMax X.K vs H Q ∨ rMaxT X.K vs H Q) := fun pins s σ H vs us Q I r h => h.elim (cr_max hc pins s σ H vs us Q I r) (cr_maxT hc pins s σ H vs us Q I r)
theorem bi_max1 {X : Cx} (hc : X.calm = true) : CallR X (.builtin "max") (BiR X.K .max1 false) := CallR.imp (cr_maxX hc) fun vs H Q ⟨G, ps, W, ft, r, h⟩ => by
  obtain ⟨x, rfl, h⟩ := bi_one h fun _ _ => rfl
  obtain ⟨v, rfl, r1⟩ := reps1 r
  cases x with
  | list xs =>
    unfold Rep at r1
    obtain ⟨a, ws, rfl, ls, r⟩ := r1
    have h : RP W (match intsP xs with | some (i :: l) => okI (maxI i l) | _ => .bad) (fun p => ∀ v H', Same H H' → RepR X.K G H H' false p v → Q v H') := h
    cases e : intsP xs with
    | none => rw [e] at h; exact h.elim
    | some ns =>
      rw [e] at h
      obtain ⟨rfl, _⟩ := ints_ok e r
      cases ns with
      | nil => exact h.elim
      | cons i l =>
        refine .inl ⟨a, i :: l, rfl, ls.sql, Nat.succ_pos _, fun m hm hle => ?_⟩
        obtain ⟨h1, h2, h3⟩ := maxI_ok l i
        have e1 : m = maxI i l := by
          have a1 : maxI i l ≤ m := h1.elim (fun z => by rw [z]; exact hle _ List.mem_cons_self) fun z => hle _ (List.mem_cons_of_mem _ z)
          have a2 : m ≤ maxI i l := by
            rcases List.mem_cons.mp hm with rfl | hm
            · exact h2
            · exact h3 m hm
          omega
        rw [e1]
        exact h _ H (Same.refl H) (repR_of rep_int rfl)
  | tuple xs =>
    unfold Rep at r1
    obtain ⟨a, ws, rfl, ls, r⟩ := r1
    have h : RP W (match intsP xs with | some (i :: l) => okI (maxI i l) | _ => .bad) (fun p => ∀ v H', Same H H' → RepR X.K G H H' false p v → Q v H') := h
    cases e : intsP xs with
    | none => rw [e] at h; exact h.elim
    | some ns =>
      rw [e] at h
      obtain ⟨rfl, _⟩ := ints_ok e r
      cases ns with
      | nil => exact h.elim
      | cons i l =>
        refine .inr ⟨a, i :: l, rfl, ls, Nat.succ_pos _, fun m hm hle => ?_⟩
        obtain ⟨h1, h2, h3⟩ := maxI_ok l i
        have e1 : m = maxI i l := by
          have a1 : maxI i l ≤ m := h1.elim (fun z => by rw [z]; exact hle _ List.mem_cons_self) fun z => hle _ (List.mem_cons_of_mem _ z)
          have a2 : m ≤ maxI i l := by
            rcases List.mem_cons.mp hm with rfl | hm
            · exact h2
            · exact h3 m hm
          omega
        rw [e1]
        exact h _ H (Same.refl H) (repR_of rep_int rfl)
  | _ => exact False.elim h
theorem bi_any {X : Cx} (hc : X.calm = true) : CallR X (.builtin "any") (BiR X.K .any1 false) := CallR.imp (cr_any hc) fun vs H Q ⟨G, ps, W, ft, r, h⟩ => by
  obtain ⟨x, rfl, h⟩ := bi_one h fun _ _ => rfl
  obtain ⟨v, rfl, r1⟩ := reps1 r
  cases x with
  | list xs =>
    unfold Rep at r1
    obtain ⟨a, ws, rfl, ls, r⟩ := r1
    have h : RP W (match boolsP xs with | some bs => okB (bs.any id) | none => .bad) (fun p => ∀ v H', Same H H' → RepR X.K G H H' false p v → Q v H') := h
    cases e : boolsP xs with
    | none => rw [e] at h; exact h.elim
    | some ns =>
      rw [e] at h
      have f := bools_ok e r
      subst f
      exact ⟨a, ns, rfl, ls.sql, h _ H (Same.refl H) (repR_of rep_bool rfl)⟩
  | _ => exact False.elim h
def isInt1 : Bi → Bool
  | .int1 => true
  | _ => false
theorem se_bi {bb : Bi} (hcm : T.cm = true ∨ isInt1 bb = true) (hg : gloB T.scope x = true) (hn : nameB x = true) (hb : x ∈ T.blts) (he : x = biName bb) (hs : SA T (e :: es) (ie :: is)) : SE T (.Call (.Name x p) (e :: es) [] pos) (.bi bb (ie :: is)) := by
  refine ⟨rfl, fun Y W Φ X ok => ?_⟩
  obtain ⟨n1, _, n3⟩ := nameB_ok hn
  have hm := ok.blt x hb
  have pl := hs.1
  rw [List.all_cons, Bool.and_eq_true] at pl
  have st := plainE_star pl.1 es X.env
  have sp := plainEs_star pos X.env pl.2
  have ha := hs.2 Y W Φ X ok
  subst he
  cases bb with
  | len => exact PE.imp (pe_callB bi_len (gloB_ok ok hg) hm PySem.boot_len ha n3 n1 st sp) fun σ H Q h => bi_read h
  | list1 => exact PE.imp (pe_callTy bi_list (gloB_ok ok hg) hm (by decide +kernel) ha n3 n1 st sp) fun σ H Q h => bi_read h
  | tuple1 => exact PE.imp (pe_callTy bi_tuple (gloB_ok ok hg) hm (by decide +kernel) ha n3 n1 st sp) fun σ H Q h => bi_read h
  | max2 => exact PE.imp (pe_callB (bi_max2 (ok.calm (hcm.elim id fun z => by cases z))) (gloB_ok ok hg) hm (by decide +kernel) ha n3 n1 st sp) fun σ H Q h => bi_read h
  | min2 => exact PE.imp (pe_callB (bi_min2 (ok.calm (hcm.elim id fun z => by cases z))) (gloB_ok ok hg) hm (by decide +kernel) ha n3 n1 st sp) fun σ H Q h => bi_read h
  | sum1 => exact PE.imp (pe_callB (bi_sum (ok.calm (hcm.elim id fun z => by cases z))) (gloB_ok ok hg) hm (by decide +kernel) ha n3 n1 st sp) fun σ H Q h => bi_read h
  | max1 => exact PE.imp (pe_callB (bi_max1 (ok.calm (hcm.elim id fun z => by cases z))) (gloB_ok ok hg) hm (by decide +kernel) ha n3 n1 st sp) fun σ H Q h => bi_read h
  | any1 => exact PE.imp (pe_callB (bi_any (ok.calm (hcm.elim id fun z => by cases z))) (gloB_ok ok hg) hm (by decide +kernel) ha n3 n1 st sp) fun σ H Q h => bi_read h
  | sorted1 => exact PE.imp (pe_callB bi_sorted (gloB_ok ok hg) hm (by decide +kernel) ha n3 n1 st sp) fun σ H Q h => bi_read h
  | str1 => exact PE.imp (pe_callTy bi_str (gloB_ok ok hg) hm (by decide +kernel) ha n3 n1 st sp) fun σ H Q h => bi_read h
  | int1 => exact PE.imp (pe_callTy bi_int (gloB_ok ok hg) hm (by decide +kernel) ha n3 n1 st sp) fun σ H Q h => bi_read h
/-! ### isinstance -/
def isDictP : PyData → Bool
  | .dict _ => true
  | _ => false
theorem tyX_rep {K : PySem.W.Frag} {G : Addr → Prop} {H : Hp} {q : PyData} {v : V} (hd : isDictP q = false) (h : Rep K G H q v) : TyX K H v (.type (tyOfP q)) := by
  cases q with
  | none => unfold Rep at h; subst h; exact .base .non
  | bool b => unfold Rep at h; subst h; exact .base (.bl b)
  | int i => unfold Rep at h; subst h; exact .base (.int i)
  | str z => unfold Rep at h; subst h; exact .base (.str z)
  | list xs =>
    unfold Rep at h
    obtain ⟨a, vs, rfl, ls, r⟩ := h
    rcases ls with ⟨_, sq | ⟨o, sq⟩⟩ | ⟨o, its, n, e, c, _⟩
    · exact .base (.lst sq)
    · exact .base (.frz sq)
    · exact .kList e c
  | tuple xs =>
    unfold Rep at h
    obtain ⟨a, vs, rfl, sq, r⟩ := h
    rcases sq with sq | ⟨o, its, n, e, c, _⟩
    · exact .base (.tup sq)
    · exact .kTuple e c
  | dict _ => cases hd
theorem se_isi {ty : Str} {tn : String} (hg : gloB T.scope "isinstance" = true) (hb : ("isinstance" : Str) ∈ T.blts) (hg2 : gloB T.scope ty = true) (hn : nameB ty = true) (hb2 : ty ∈ T.blts) (hv : bootBuiltins ty = some (.type tn)) (ha : SE T a ia) :
    SE T (.Call (.Name "isinstance" p) [a, .Name ty p2] [] pos) (.isi tn ia) := by
  refine ⟨rfl, fun Y W Φ X ok => ?_⟩
  obtain ⟨n1, _, n3⟩ := nameB_ok hn
  have args : PA X [a, .Name ty p2] (tCons (rd (Y.kb X.K) W (evE Φ ia) (lk ia) (lkI ia) (fresh ia)) (tCons (tC (.ty tn)) tNil)) :=
    pa_cons (ha.2 Y W Φ X ok) (pa_cons (pe_bltn (gloB_ok ok hg2) (ok.blt _ hb2) hv rfl n3 n1) pa_nil) (plainE_star ha.1 _ _)
  refine PE.imp (pe_callB call_isi (gloB_ok ok hg) (ok.blt _ hb) (by decide +kernel) args (by decide) (by decide) (plainE_star ha.1 _ _) rfl) fun σ H Q ⟨ρ, F, H0, er, h⟩ => ?_
  unfold evE at h
  refine ⟨ρ, F, H0, er, (RP.bind h).mono fun z hz v H1 s1 r1 i1 => ?_⟩
  have nd : isDictP z = false := by
    cases z with
    | dict _ => exact False.elim hz
    | _ => rfl
  have hz : RP W (match kitB (tyOfP z) tn with | some b => .ok (.bool b) | none => .bad) (fun p => ∀ v H', Same H H' → RepR X.K (FX F [] σ ρ) H H' false p v → RepI X.K (FX F [] σ ρ) H' p v → Q v H') := by
    cases z with
    | dict _ => exact False.elim hz
    | _ => exact hz
  cases e : kitB (tyOfP z) tn with
  | none => simp only [e] at hz; exact False.elim hz
  | some b =>
    simp only [e] at hz
    exact ⟨v, .ty tn, _, _, b, rfl, .ty tn, tyX_rep nd r1.1, kit_ty e, hz _ H1 s1 (repR_of rep_bool rfl) (.of rep_bool)⟩
/-! ### a length leans on nothing -/
theorem ev_lenN {Φ : Nat → List PyData → R PyData} {ia : E} {ρ : PEnv} : evE Φ (.bi .len [ia]) ρ = (evE Φ ia ρ).bind fun x => biV .len [x] := by
  show ((((evE Φ ia ρ).bind fun p => (evEs Φ [] ρ).bind fun ps => .ok (p :: ps))).bind fun ps => biV .len ps) = _
  cases evE Φ ia ρ <;> rfl
theorem biLen_int {W : XW} {ps : List PyData} {P : PyData → Prop} (h : RP W (biV .len ps) P) : RP W (biV .len ps) fun z => (∃ n : Int, z = .int n) ∧ P z := by
  obtain ⟨x, rfl, h⟩ := bi_one h fun _ _ => rfl
  cases x with
  | list xs => exact ⟨⟨_, rfl⟩, h⟩
  | tuple xs => exact ⟨⟨_, rfl⟩, h⟩
  | str y =>
    obtain ⟨c, h⟩ := RP.guard (show RP W (guardR (decide (y.length ≤ sizeLine)) (R.ok (PyData.int (y.length : Nat)))) _ from h)
    show RP W (guardR (decide (y.length ≤ sizeLine)) (R.ok (PyData.int (y.length : Nat)))) _
    rw [c]
    exact ⟨⟨_, rfl⟩, h⟩
  | _ => exact False.elim h
theorem se_len0 {e : Expr} {ia : E} (h : SE T e (.bi .len [ia])) : SE T e (.lenN ia) :=
  ⟨h.1, fun Y W Φ X ok => PE.imp (h.2 Y W Φ X ok) fun σ H Q ⟨ρ, F, H0, er, h⟩ => ⟨ρ, F, H0, er, by
    rw [ev_lenN]
    have h : RP W ((evE Φ ia ρ).bind fun x => biV .len [x]) fun p => ∀ v H', Same H H' → RepR X.K (FX F (lk (.lenN ia)) σ ρ) H H' (fresh (.lenN ia)) p v → RepI X.K (FX F (lkI (.lenN ia)) σ ρ) H' p v → Q v H' := h
    cases q : evE Φ ia ρ with
    | ok x =>
      rw [q] at h
      have g := biLen_int (ps := [x]) h
      refine RP.mono g fun z hz => ?_
      obtain ⟨⟨n, rfl⟩, hz⟩ := hz
      intro v H' s r i
      have := rep_int_v r.1
      subst this
      exact hz _ H' s (repR_of rep_int rfl) (.of rep_int)
    | ex c as => rw [q] at h; exact h
    | bad => rw [q] at h; exact h⟩⟩
end
end L2.Pu
namespace L2.Pu
open PySem PySem.Spec PyProof.Rows
/-! ### what is walked -/
/-- the iteration J yields the items, as long as the heap stays but for G -/
def ItOk (K : PySem.W.Frag) (G : Addr → Prop) (H : Hp) (J : It) (items : List PyData) : Prop := ∀ Z : Addr → Prop, (∀ a, Z a → H a = none) → ∀ i H1, Ext G H H1 →
  (∀ p, items[i]? = some p → J.go i H1 ∧ ∀ x H2, J.yld i H1 x H2 → Same H1 H2 ∧ Rep K (fun a => G a ∨ Z a) H2 p x) ∧ (items.length ≤ i → J.stop i H1)
def rdI (K : KB) (W : XW) (ev : PEnv → R (List PyData)) (lk : List Nat) : TI := fun σ H Q => ∃ ρ F H0, EnvRep K F H0 H σ ρ ∧
  RP W (ev ρ) fun items => ∀ J H', Same H H' → ItOk K (FX F lk σ ρ) H' J items → Q J H'
theorem PI.imp {X : Cx} {tg iter : Expr} {t t' : TI} (h : PI X tg iter t) (f : ∀ σ H Q, t' σ H Q → t σ H Q) : PI X tg iter t' := ⟨fun pins s σ H R I q => h.run pins s σ H R I (f σ H R q)⟩
theorem PI.or {X : Cx} {tg iter : Expr} {tl : TE} (hl : PE X iter tl) : PI X tg iter (fun σ H R => tl σ H fun x H1 => (∃ a, x = .ref a ∧ (∃ xs, SqL X.K H1 a xs) ∧ R (Itl X.K a) H1) ∨ (∃ a, x = .ref a ∧ (∃ xs, SqT X.K H1 a xs) ∧ R (Itt X.K a) H1)) := by
  refine ⟨fun pins s σ H R I h => ?_⟩
  have base : PE X iter (fun σ H Q => ∃ v, Q v H) → True := fun _ => trivial
  refine thn (hl.run pins s σ H _ I h) fun v s1 ⟨x, H1, I1, r1, q1⟩ => ?_
  rcases q1 with ⟨a, e, ⟨xs, hq⟩, q⟩ | ⟨a, e, ⟨xs, hq⟩, q⟩
  · subst e
    cases r1
    obtain ⟨its, rv, p, hz⟩ := I1.list hq
    refine wpAny_pyIter_list p.isList ?_
    refine ⟨s1.heap.objs.size, [s1.heap.objs.size], _, _, H1, rfl, I1.kept (t' := s1.toks) fun b o e => Heap.get?_push_of_some _ e, turn_list a _, ⟨_, Heap.get?_push_size _ rfl, rfl, rfl⟩, fun b hb => ?_, q⟩
    have e : b = s1.heap.objs.size := by simpa using hb
    subst e
    exact I1.fpOk (Nat.le_refl _) (I1.hok.fresh (Nat.le_refl _))
  · subst e
    cases r1
    obtain ⟨its, rv, p, hz⟩ := I1.tuple hq
    refine wpAny_pyIter_tuple (show s1.heap.IsTuple a its.toArray from p) ?_
    refine ⟨s1.heap.objs.size, [s1.heap.objs.size], _, _, H1, rfl, I1.kept (t' := s1.toks) fun b o e => Heap.get?_push_of_some _ e, turn_tuple a _, ⟨_, Heap.get?_push_size _ rfl, rfl, rfl⟩, fun b hb => ?_, q⟩
    have e : b = s1.heap.objs.size := by simpa using hb
    subst e
    exact I1.fpOk (Nat.le_refl _) (I1.hok.fresh (Nat.le_refl _))
section
variable {K : PySem.W.Frag} {G : Addr → Prop} {H : Hp} {items : List PyData}
theorem Reps.get' : ∀ {ps : List PyData} {vs : List V} {i : Nat} {v : V} {p : PyData}, Reps K G H ps vs → vs[i]? = some v → ps[i]? = some p → Rep K G H p v := fun {ps vs i v p} h e1 e2 => by
  obtain ⟨w, e3, r⟩ := h.get e2
  rw [e1] at e3
  cases e3
  exact r
theorem itOk_list {a : Addr} {vs : List V} (ft : FT G H) (ls : LsR K G H a vs) (r : Reps K G H items vs) : ItOk K G H (Itl K a) items := fun Z hZ i H1 ex => by
  have sq1 : SqL K H1 a vs := (ls.ext ex).sql
  have r1 := Reps.extN (F := fun a => G a ∨ Z a) (H' := H1) (fun b o f e => f.elim (fun f => ft.nt b o f e) fun f => by rw [hZ b f] at e; cases e) (fun b o e n => ex b o e fun z => n (.inl z)) _ _ (reps_avoidZ hZ _ _ r)
  refine ⟨fun p hp => ?_, fun hi => ⟨vs, sq1, by rw [r.length]; exact hi⟩⟩
  obtain ⟨v, ev, _⟩ := r1.get hp
  refine ⟨⟨vs, v, sq1, ev⟩, fun x H2 y => ?_⟩
  obtain ⟨e, y⟩ := y
  subst e
  exact ⟨Same.refl _, r1.get' (y vs sq1) hp⟩
theorem itOk_tup {a : Addr} {vs : List V} (ft : FT G H) (sq : SqT K H a vs) (r : Reps K G H items vs) : ItOk K G H (Itt K a) items := fun Z hZ i H1 ex => by
  have sq1 : SqT K H1 a vs := sqT_ext sq ft ex
  have r1 := Reps.extN (F := fun a => G a ∨ Z a) (H' := H1) (fun b o f e => f.elim (fun f => ft.nt b o f e) fun f => by rw [hZ b f] at e; cases e) (fun b o e n => ex b o e fun z => n (.inl z)) _ _ (reps_avoidZ hZ _ _ r)
  refine ⟨fun p hp => ?_, fun hi => ⟨vs, sq1, by rw [r.length]; exact hi⟩⟩
  obtain ⟨v, ev, _⟩ := r1.get hp
  refine ⟨⟨vs, v, sq1, ev⟩, fun x H2 y => ?_⟩
  obtain ⟨e, y⟩ := y
  subst e
  exact ⟨Same.refl _, r1.get' (y vs sq1) hp⟩
theorem rangeP_len {lo c : Int} {n : Nat} : (rangeP lo n c).length = n := by unfold rangeP; simp
theorem rangeP_get {lo c : Int} {n i : Nat} {p : PyData} (h : (rangeP lo n c)[i]? = some p) : i < n ∧ p = .int (lo + i * c) := by
  have hl := get_lt h
  rw [rangeP_len] at hl
  unfold rangeP at h
  rw [List.getElem?_map, List.getElem?_range hl] at h
  cases h
  exact ⟨hl, rfl⟩
theorem itOk_range {lo : Int} {n : Nat} : ItOk K G H (Itr lo n) (rangeP lo n 1) := fun Z hZ i H1 ex => by
  refine ⟨fun p hp => ?_, fun hi => by rw [rangeP_len] at hi; exact hi⟩
  obtain ⟨hl, rfl⟩ := rangeP_get hp
  refine ⟨hl, fun x H2 y => ?_⟩
  obtain ⟨e, y⟩ := y
  subst e y
  refine ⟨Same.refl _, ?_⟩
  rw [show lo + (i : Int) * 1 = lo + i by omega]
  exact rep_int
theorem itOk_rangeC {lo c : Int} {n : Nat} : ItOk K G H (Itc lo c n) (rangeP lo n c) := fun Z hZ i H1 ex => by
  refine ⟨fun p hp => ?_, fun hi => by rw [rangeP_len] at hi; exact hi⟩
  obtain ⟨hl, rfl⟩ := rangeP_get hp
  refine ⟨hl, fun x H2 y => ?_⟩
  obtain ⟨e, y⟩ := y
  subst e y
  exact ⟨Same.refl _, rep_int⟩
end
/-- a source of items -/
def SI (T : Tb) (tg iter : Expr) (s : Src) (is : List E) : Prop := plainE iter = true ∧ ∀ (Y : Xsys) (W : XW) (Φ : Nat → List PyData → R PyData) (X : Cx), CxOk Y W T Φ X → PI X tg iter (rdI (Y.kb X.K) W (fun ρ => (evEs Φ is ρ).bind (srcItems s)) (lks is))
theorem plainE_fold {e : Expr} (h : plainE e = true) (env : Env) (x : Value) : foldedSetIterable e env x = pure x := by
  cases e <;> first | rfl | cases h
section
variable {T : Tb} {x : Str} {pos p2 p : Pos} {a b c e tg : Expr} {es : List Expr} {ia ib ic ie : E} {is : List E}
theorem evEs_one {Φ : Nat → List PyData → R PyData} {W : XW} {ρ : PEnv} {β : Type} {f : List PyData → R β} {P : β → Prop} (h : RP W ((evEs Φ [ia] ρ).bind f) P) : RP W (evE Φ ia ρ) fun x => RP W (f [x]) P := by
  unfold evEs at h
  rw [bind_assoc] at h
  exact (RP.bind h).mono fun x hx => hx
theorem si_seq (ha : SE T a ia) : SI T tg a .seq [ia] := by
  refine ⟨ha.1, fun Y W Φ X ok => PI.imp (PI.or (ha.2 Y W Φ X ok)) fun σ H Q ⟨ρ, F, H0, er, h⟩ => ?_⟩
  refine ⟨ρ, F, H0, er, (evEs_one h).mono fun z hz v H1 s1 r1 i1 => ?_⟩
  have sub : ∀ b, FX F (lks [ia]) σ ρ b → FX F (lk ia) σ ρ b := FX.mono fun i hi => by unfold lks; exact List.mem_append_left _ hi
  have ft := (er.grow s1).ftX (lks [ia])
  cases z with
  | list xs =>
    have r := r1.1
    unfold Rep at r
    obtain ⟨ad, vs, rfl, ls, r⟩ := r
    exact .inl ⟨ad, rfl, ⟨vs, ls.sql⟩, hz _ H1 s1 (itOk_list ft (ls.sub sub) (r.sub sub))⟩
  | tuple xs =>
    have r := r1.1
    unfold Rep at r
    obtain ⟨ad, vs, rfl, sq, r⟩ := r
    exact .inr ⟨ad, rfl, ⟨vs, sq.sq⟩, hz _ H1 s1 (itOk_tup ft sq (r.sub sub))⟩
  | _ => exact False.elim hz
theorem ends62_ok {i : Int} (h : ends62 i = true) : -(2 ^ 62) ≤ i ∧ i < 2 ^ 62 := by
  unfold ends62 at h
  rw [Bool.and_eq_true] at h
  exact ⟨of_decide_eq_true h.1, of_decide_eq_true h.2⟩
theorem si_rng1 (hg : gloB T.scope "range" = true) (hb : ("range" : Str) ∈ T.blts) (ha : SA T [a] [ia]) : SI T tg (.Call (.Name "range" p) [a] [] pos) .rng1 [ia] := by
  refine ⟨rfl, fun Y W Φ X ok => ?_⟩
  have pl := ha.1
  rw [List.all_cons, Bool.and_eq_true] at pl
  refine PI.imp (pi_range1 (gloB_ok ok hg) (ok.blt _ hb) (ha.2 Y W Φ X ok) (plainE_star pl.1 _ _)) fun σ H Q ⟨ρ, F, H0, er, h⟩ => ?_
  refine ⟨ρ, F, H0, er, (evEs_len (RP.bind h)).mono fun ps ⟨el, hp⟩ vs H1 s1 r1 => ?_⟩
  match ps, el with
  | [z], _ =>
    obtain ⟨v, rfl, r⟩ := reps1 r1
    cases z with
    | int i =>
      have e := rep_int_v r
      subst e
      obtain ⟨c, hp⟩ := RP.guard hp
      obtain ⟨c1, c2⟩ := ends62_ok c
      exact ⟨i, rfl, c1, c2, hp _ H1 s1 itOk_range⟩
    | _ => exact False.elim hp
theorem si_rng2 (hg : gloB T.scope "range" = true) (hb : ("range" : Str) ∈ T.blts) (ha : SA T [a, b] [ia, ib]) : SI T tg (.Call (.Name "range" p) [a, b] [] pos) .rng2 [ia, ib] := by
  refine ⟨rfl, fun Y W Φ X ok => ?_⟩
  have pl := ha.1
  rw [List.all_cons, Bool.and_eq_true, List.all_cons, Bool.and_eq_true] at pl
  refine PI.imp (pi_range2 (gloB_ok ok hg) (ok.blt _ hb) (ha.2 Y W Φ X ok) (by rw [plainE_star pl.1, plainE_star pl.2.1]; rfl) (plainE_star pl.2.1 _ _)) fun σ H Q ⟨ρ, F, H0, er, h⟩ => ?_
  refine ⟨ρ, F, H0, er, (evEs_len (RP.bind h)).mono fun ps ⟨el, hp⟩ vs H1 s1 r1 => ?_⟩
  match ps, el with
  | [z, y], _ =>
    obtain ⟨v, w, rfl, r, r2⟩ := reps2 r1
    cases z with
    | int i =>
      cases y with
      | int j =>
        have e := rep_int_v r
        have e2 := rep_int_v r2
        subst e e2
        obtain ⟨c, hp⟩ := RP.guard hp
        rw [Bool.and_eq_true] at c
        obtain ⟨c1, c2⟩ := ends62_ok c.1
        obtain ⟨c3, c4⟩ := ends62_ok c.2
        exact ⟨i, j, rfl, ⟨c1, c2, c3, c4⟩, hp _ H1 s1 itOk_range⟩
      | _ => exact False.elim hp
    | _ => exact False.elim hp
theorem si_rng3 (hg : gloB T.scope "range" = true) (hb : ("range" : Str) ∈ T.blts) (ha : SA T [a, b, c] [ia, ib, ic]) : SI T tg (.Call (.Name "range" p) [a, b, c] [] pos) .rng3 [ia, ib, ic] := by
  refine ⟨rfl, fun Y W Φ X ok => ?_⟩
  have pl := ha.1
  rw [List.all_cons, Bool.and_eq_true] at pl
  refine PI.imp (pi_range3 (gloB_ok ok hg) (ok.blt _ hb) (ha.2 Y W Φ X ok) (plainE_star pl.1 _ _) (plainEs_star _ _ pl.2)) fun σ H Q ⟨ρ, F, H0, er, h⟩ => ?_
  refine ⟨ρ, F, H0, er, (evEs_len (RP.bind h)).mono fun ps ⟨el, hp⟩ vs H1 s1 r1 => ?_⟩
  match ps, el with
  | [z, y, u], _ =>
    obtain ⟨v, w, t, rfl, r, r2, r3⟩ := reps3 r1
    cases z with
    | int i =>
      cases y with
      | int j =>
        cases u with
        | int k =>
          have e := rep_int_v r
          have e2 := rep_int_v r2
          have e3 := rep_int_v r3
          subst e e2 e3
          obtain ⟨c, hp⟩ := RP.guard hp
          unfold rng3Ok at c
          rw [Bool.and_eq_true, Bool.and_eq_true] at c
          exact ⟨i, j, k, _, rfl, ⟨of_decide_eq_true c.1.1, of_decide_eq_true c.1.2, c.2, rangeSize_toNat i j k⟩, hp _ H1 s1 itOk_rangeC⟩
        | _ => exact False.elim hp
      | _ => exact False.elim hp
    | _ => exact False.elim hp
/-! ### targets -/
def gsP : List Nat → TGs
  | [] => gNil
  | i :: is => gCons (gName i) (gsP is)
def gP (K : PySem.W.Frag) : Tg → TG
  | .nm i => gName i
  | .tp is => gTup K is.length (gsP is)
def SG (T : Tb) (tg : Expr) (itg : Tg) : Prop := ∀ (Y : Xsys) (W : XW) (Φ : Nat → List PyData → R PyData) (X : Cx), CxOk Y W T Φ X → PG X tg (gP X.K itg)
def locB (T : Tb) (x : Str) : Bool := match T.scope.names.lookup x with
  | some .local => true
  | some .cell => T.fnb x
  | _ => false
theorem locB_ok {Y : Xsys} {W : XW} {Φ : Nat → List PyData → R PyData} {X : Cx} (ok : CxOk Y W T Φ X) (h : locB T x = true) : Loc X.env.scope x ∧ (X.fn x = true ∨ X.env.scope.names.lookup x = some .local) := by
  unfold locB at h
  unfold Loc
  rw [ok.sc]
  cases e : T.scope.names.lookup x with
  | none => rw [e] at h; cases h
  | some k =>
    rw [e] at h
    cases k with
    | «local» => exact ⟨.inl rfl, .inr rfl⟩
    | cell => exact ⟨.inr rfl, .inl (ok.fnb x h)⟩
    | _ => cases h
theorem sg_name {i : Nat} (hN : T.N[i]? = some x) (hl : locB T x = true) : SG T (.Name x pos) (.nm i) := fun Y W Φ X ok => by
  obtain ⟨h1, h2⟩ := locB_ok ok hl
  exact pg_name (by rw [ok.N]; exact ok.nd) (by rw [ok.N]; exact hN) h1 h2
def SGs (T : Tb) (ts : List Expr) (is : List Nat) : Prop := (∀ env, (assignEach ts env).map (·.2) = ts.map fun t => assign t env) ∧ (∀ env, (assignEach ts env).findIdx? (·.1) = none) ∧ ts.length = is.length ∧
  ∀ (Y : Xsys) (W : XW) (Φ : Nat → List PyData → R PyData) (X : Cx), CxOk Y W T Φ X → PGs X ts (gsP is)
theorem sgs_nil : SGs T [] [] := ⟨fun _ => rfl, fun _ => rfl, rfl, fun _ _ _ _ _ => pgs_nil⟩
theorem assignEach_name {ts : List Expr} (env : Env) : assignEach (.Name x pos :: ts) env = (false, assign (.Name x pos) env) :: assignEach ts env := by rfl
theorem sgs_cons {i : Nat} {ts : List Expr} {is : List Nat} (hN : T.N[i]? = some x) (hl : locB T x = true) (h : SGs T ts is) : SGs T (.Name x pos :: ts) (i :: is) := by
  obtain ⟨h1, h2, h3, h4⟩ := h
  refine ⟨fun env => ?_, fun env => ?_, by simp [h3], fun Y W Φ X ok => ?_⟩
  · rw [assignEach_name, List.map_cons, List.map_cons, h1]
  · rw [assignEach_name, List.findIdx?_cons, h2]; rfl
  · exact pgs_cons (sg_name hN hl Y W Φ X ok) (h4 Y W Φ X ok) (by rw [assignEach_name]; rfl)
theorem sg_tup {k : Nat} {ts : List Expr} {is : List Nat} (hcm : T.cm = true) (h : SGs T ts is) : SG T (.Tuple ts k pos) (.tp is) := fun Y W Φ X ok => by
  obtain ⟨h1, h2, h3, h4⟩ := h
  refine pg_tup (ok.calm hcm) (h4 Y W Φ X ok) ?_ (h2 _)
  have e := congrArg List.length (h1 X.env)
  simp only [List.length_map] at e
  rw [e, h3]
def tgSlots : Tg → List Nat
  | .nm i => [i]
  | .tp is => is
/-- what a target leaves -/
structure Kept (L : List Nat) (F : Addr → Prop) (σ : L2.St) (ρ : PEnv) (σ' : L2.St) (ρ' : PEnv) : Prop where
  sub : ∀ a, FX F [] σ' ρ' a → FX F [] σ ρ a
  st : ∀ j, j ∉ L → σ'[j]? = σ[j]?
  en : ∀ j, j ∉ L → ρ'[j]? = ρ[j]?
  len : σ.length = σ'.length
theorem kept_set {F : Addr → Prop} {σ : L2.St} {ρ : PEnv} {i : Nat} {v : V} {q : PyData} : Kept [i] F σ ρ (σ.set i (some v)) (ρ.set i (some (false, q))) :=
  ⟨fun a z => by
    rcases z with z | ⟨j, q, hj, e1, e2⟩
    · exact .inl z
    · rcases set_get e1 with ⟨_, e⟩ | ⟨ne, e1⟩
      · cases e
      · rw [set_other ne] at e2
        exact .inr ⟨j, q, hj, e1, e2⟩, fun j hj => set_other fun e => hj (by rw [e]; exact List.mem_singleton.mpr rfl), fun j hj => set_other fun e => hj (by rw [e]; exact List.mem_singleton.mpr rfl), by rw [List.length_set]⟩
theorem gs_ok {K : KB} {F : Addr → Prop} {H0 H : Hp} {Q : L2.St → Hp → Prop} {W : XW} : ∀ {is : List Nat} {ps : List PyData} {vs : List V} {σ : L2.St} {ρ : PEnv} {P : PEnv → Prop}, EnvRep K F H0 H σ ρ → Reps K (FX F [] σ ρ) H ps vs → RP W (setAll is ps ρ) P →
    (∀ σ' ρ', EnvRep K F H0 H σ' ρ' → P ρ' → Kept is F σ ρ σ' ρ' → Q σ' H) → gsP is vs σ H Q
  | [], [], [], σ, ρ, P, er, r, h, f => ⟨rfl, f σ ρ er h ⟨fun _ z => z, fun _ _ => rfl, fun _ _ => rfl, rfl⟩⟩
  | i :: is, p :: ps, v :: vs, σ, ρ, P, er, r, h, f => by
    unfold Reps at r
    refine ⟨v, vs, rfl, ?_⟩
    have er2 := er.set i r.1
    have k1 : Kept [i] F σ ρ (σ.set i (some v)) (ρ.set i (some (false, p))) := kept_set
    exact gs_ok er2 (r.2.sub k1.sub) h fun σ' ρ' e' p' s' => f σ' ρ' e' p' ⟨fun a z => k1.sub a (s'.sub a z), fun j hj => by
      rw [s'.st j fun z => hj (List.mem_cons_of_mem _ z), k1.st j fun z => hj (by rw [List.mem_singleton.mp z]; exact List.mem_cons_self)], fun j hj => by
      rw [s'.en j fun z => hj (List.mem_cons_of_mem _ z), k1.en j fun z => hj (by rw [List.mem_singleton.mp z]; exact List.mem_cons_self)], by rw [← s'.len, k1.len]⟩
  | [], _ :: _, _, _, _, _, _, _, h, _ => False.elim h
  | _ :: _, [], _, _, _, _, _, _, h, _ => False.elim h
  | [], [], _ :: _, _, _, _, _, r, _, _ => by unfold Reps at r; exact r.elim
  | _ :: _, _ :: _, [], _, _, _, _, r, _, _ => by unfold Reps at r; exact r.elim
theorem setAll_len {W : XW} : ∀ {is : List Nat} {ps : List PyData} {ρ : PEnv} {P : PEnv → Prop}, RP W (setAll is ps ρ) P → ps.length = is.length
  | [], [], _, _, _ => rfl
  | i :: is, p :: ps, _, _, h => congrArg Nat.succ (setAll_len (is := is) (ps := ps) h)
  | [], _ :: _, _, _, h => False.elim h
  | _ :: _, [], _, _, h => False.elim h
/-- a target takes a value that owns nothing -/
theorem g_ok {K : KB} {F : Addr → Prop} {H0 H : Hp} {Q : L2.St → Hp → Prop} {W : XW} {itg : Tg} {q : PyData} {v : V} {σ : L2.St} {ρ : PEnv} {P : PEnv → Prop} (er : EnvRep K F H0 H σ ρ) (r : Rep K (FX F [] σ ρ) H q v)
    (h : RP W (setTg itg false q ρ) P) (f : ∀ σ' ρ', EnvRep K F H0 H σ' ρ' → P ρ' → Kept (tgSlots itg) F σ ρ σ' ρ' → Q σ' H) : gP K itg v σ H Q := by
  cases itg with
  | nm i =>
    have h : P (ρ.set i (some (false, q))) := h
    exact f _ _ (er.set i r) h kept_set
  | tp is =>
    cases q with
    | tuple ps =>
      have h : RP W (setAll is ps ρ) P := h
      unfold Rep at r
      obtain ⟨a, vs, rfl, sq, r⟩ := r
      exact ⟨a, vs, rfl, sq, r.length.trans (setAll_len h), gs_ok er r h f⟩
    | _ => exact False.elim h
end
end L2.Pu
namespace L2.Pu
open PySem PySem.Spec PyProof.Rows
open PySem.Sem (wp)
/-! ### enumerate of a tuple -/
theorem meets_enumT (t : Addr) (xs : Array Value) (n : Nat) (dc : Option Addr) (sl : Array (Option Value)) :
    Meets (Builtin.«enumerate.__new__» ⟨[.type "enumerate", .ref t], []⟩) (fun _ Z s => s.heap.get? t = some ⟨.type "tuple", dc, .seq xs n, sl⟩ ∧
      Z (.ok (.ret (.ref (s.heap.push ⟨.type "tuple_iterator", none, .fields #[.ref t, .int 0 0], #[]⟩).objs.size)))
        { s with heap := (s.heap.push ⟨.type "tuple_iterator", none, .fields #[.ref t, .int 0 0], #[]⟩).push ⟨.type "enumerate", none, .fields #[.none, .bool false, .ref s.heap.objs.size, rawInt 0, .none, .none], #[]⟩ }) :=
  .of_wp fun prog w A Z s hz => by
    obtain ⟨hp, g, d, tk, os⟩ := s; obtain ⟨ht, hz⟩ := hz
    have hsub := sub_enumerate
    have hT : Heap.IsTuple (Shared.heap ⟨hp, g, d, tk, os⟩) t xs := ⟨_, ht, rfl, n, rfl⟩
    wp_walk using PySem.AutoSeq1.wpAny_loadPart' ht
    refine wpAny_stack_any fun st => (wpAny_pure ?_)
    split
    · rename_i c _ _ _ _ _
      cases (c == Value.type "enumerate")
      · wp_walk using PySem.AutoSeq1.wpAny_loadPart' ht, wpAny_pyIter_tuple hT
        exact ⟨_, rfl, hz⟩
      · wp_walk using PySem.AutoSeq1.wpAny_loadPart' ht, wpAny_pyIter_tuple hT
        exact ⟨_, rfl, hz⟩
    · wp_walk using PySem.AutoSeq1.wpAny_loadPart' ht, wpAny_pyIter_tuple hT
      exact ⟨_, rfl, hz⟩
theorem call_enumT {prog : Program} {w : World} {A : Around} {E : Value → Shared → Prop} {s : Shared} {t : Addr} {xs : Array Value} {Q : Value → Shared → Prop} (hT : s.heap.IsTuple t xs)
    (h : ∀ h', IsEnum h' (s.heap.objs.size + 1) s.heap.objs.size 0 .none → h'.IsTupleIter s.heap.objs.size t 0 → (∀ b o, s.heap.get? b = some o → h'.get? b = some o) → Q (.ref (s.heap.objs.size + 1)) { s with heap := h' }) :
    wpAny (model prog w) A (PySem.call (.type "enumerate") [.ref t]) Q E s := by
  obtain ⟨⟨c, dc, dt, sl⟩, ht, hc, n, hd⟩ := hT
  obtain rfl : c = .type "tuple" := hc
  obtain rfl : dt = .seq xs n := hd
  refine callType_new F.called_enumerate (by decide) (F.typeCall_enumerate_1 _) (F.newCall_enumerate_1 _) (fun o => F.args_object_init_2 o _) F.entry_enumerate_new (meets_enumT t xs n dc sl) ⟨ht, ?_⟩
  have hz : (s.heap.push (⟨.type "tuple_iterator", none, .fields #[.ref t, .int 0 0], #[]⟩ : Obj)).objs.size = s.heap.objs.size + 1 := Heap.size_push ..
  show (_ ∧ _)
  rw [hz]
  have he : IsEnum ((s.heap.push (⟨.type "tuple_iterator", none, .fields #[.ref t, .int 0 0], #[]⟩ : Obj)).push ⟨.type "enumerate", none, .fields #[.none, .bool false, .ref s.heap.objs.size, rawInt 0, .none, .none], #[]⟩) (s.heap.objs.size + 1) s.heap.objs.size 0 .none := by
    have z := Heap.get?_push_size (s.heap.push (⟨.type "tuple_iterator", none, .fields #[.ref t, .int 0 0], #[]⟩ : Obj)) (o := ⟨.type "enumerate", none, .fields #[.none, .bool false, .ref s.heap.objs.size, rawInt 0, .none, .none], #[]⟩) rfl
    rw [hz] at z; exact z
  exact ⟨⟨_, he, rfl⟩, h _ he ⟨_, Heap.get?_push_of_some _ (Heap.get?_push_size _ rfl), rfl, rfl⟩ fun b o x => Heap.get?_push_of_some _ (Heap.get?_push_of_some _ x)⟩
/-- the tuple at a, each item in a new pair -/
def IteT (K : PySem.W.Frag) (a : Addr) : It :=
  ⟨fun i H => ∃ (xs : List V) (x : V), SqT K H a xs ∧ xs[i]? = some x, fun i H v H' => ∃ T x, v = .ref T ∧ H T = none ∧ H' = upd H T (.tup [.int (i : Nat), x]) ∧ ∀ xs, SqT K H a xs → xs[i]? = some x, fun i H => ∃ xs : List V, SqT K H a xs ∧ xs.length ≤ i⟩
theorem turn_enumT {P : Program} {w : World} {K : PySem.W.Frag} {ts : List Expr} {kk : Nat} {tp : Pos} (a e it : Addr) :
    Turn P w K (.Tuple ts kk tp) (IteT K a) [e, it] e (fun i h => (∃ old, IsEnum h e it ((i : Nat) : Int) old) ∧ h.IsTupleIter it a i ∧ e ≠ it) where
  mem := by simp
  obj := fun i h z b hb => by
    obtain ⟨⟨old, he⟩, ⟨o, ho, _, hd⟩, _⟩ := z
    rcases (show b = e ∨ b = it by simpa using hb) with q | q
    · rw [q]; exact ⟨_, he, fun v z => nomatch z⟩
    · rw [q]; exact ⟨o, ho, fun v z => by rw [hd] at z; cases z⟩
  keep := fun i h h' z k => let ⟨⟨old, he⟩, ht, ne⟩ := z; ⟨⟨old, k e (by simp) _ he⟩, ht.at fun o q => k it (by simp) o q, ne⟩
  item := by
    intro X hP hw hK hc i pins s σ H E I hf z hg
    subst hP hw hK
    obtain ⟨⟨old, he⟩, ht, ne⟩ := z
    obtain ⟨xs, x, hq, hx⟩ := hg
    obtain ⟨us, rv, p, hz⟩ := I.tuple hq
    obtain ⟨u, hu, ru⟩ := rv.get hx
    have p : s.heap.IsTuple a us.toArray := p
    have hat : a ≠ it := fun z => by
      obtain ⟨o, e1, c1, _⟩ := p
      obtain ⟨o', e2, c2, _⟩ := ht
      rw [z, e2] at e1
      cases e1
      rw [c1] at c2; exact absurd (Value.type.inj c2) (by decide)
    have hae : a ≠ e := fun z => by
      obtain ⟨o, e1, c1, _⟩ := p
      rw [z, he] at e1
      cases e1
      exact absurd (Value.type.inj c1) (by decide)
    have le : e < s.heap.objs.size := Heap.lt_size he
    have li : it < s.heap.objs.size := by obtain ⟨_, q, _⟩ := ht; exact Heap.lt_size q
    have hlt : i < us.toArray.size := by
      have := (List.getElem?_eq_some_iff.mp hu).1
      simpa using this
    refine wpAny_pyNext_enum_itemD (Draws.tuple (prog := X.prog) (w := X.w) (A := X.A.in1) (I.ok.hd hc) it a hat us.toArray) he ⟨ht, p⟩ hlt ne (by simp only [List.mem_cons, List.not_mem_nil, or_false, not_or]; exact ⟨ne, fun z => hae z.symm⟩) fun y h' tk hy ho st' hT hsz hk => ?_
    obtain rfl : y = u := by
      have hy : us.toArray[i]? = some y := hy
      rw [show us.toArray[i]? = us[i]? by simp, hu] at hy
      exact (Option.some.inj hy).symm
    refine ⟨_, rfl, wpAny_letOwnedTupleGo_enum (s := { s with heap := h', toks := tk + 1 }) ho fun h2 he2 sb => ?_⟩
    have hT2 : h2.get? s.heap.objs.size = some { cls := .type "tuple", data := .seq #[.int i tk, y] } := (sb.2 _ (Nat.ne_of_gt le)).trans hT
    have new : ObjOk X.prog X.w (upd H s.heap.objs.size (.tup [.int (i : Nat), x])) h2 s.heap.objs.size (.tup [.int (i : Nat), x]) :=
      ⟨by show 2 ≤ sizeLine; decide, [.int i tk, y], .cons ⟨_, rfl⟩ (.cons ru .nil), ⟨_, hT2, rfl, _, rfl⟩⟩
    have I1 : Inv X pins σ (upd H s.heap.objs.size (.tup [.int (i : Nat), x])) { s with heap := h2, toks := tk + 1 } :=
      I.turnedNew (ch := [e, it]) (fun b ob hb q => (sb.2 b (fun z => hb (by simp [z]))).trans (hk b ob (fun z => hb (by simp [z])) (fun z => hb (by simp [z])) q)) hf (Nat.le_refl _) new
    refine ⟨.ref s.heap.objs.size, _, I1, rfl, ⟨_, x, rfl, I.hok.fresh (Nat.le_refl _), rfl, fun ys hy => by rw [I.tuple_inj hy hq]; exact hx⟩, ⟨⟨y, ?_⟩, st'.1.at fun o q => (sb.2 it (Ne.symm ne)).trans q, ne⟩, fun b hb => ?_⟩
    · rw [show ((i + 1 : Nat) : Int) = (i : Int) + 1 by omega]; exact he2
    · have hb' : b < s.heap.objs.size := by
        rcases (show b = e ∨ b = it by simpa using hb) with z | z <;> (rw [z]; assumption)
      rw [upd_ne (Nat.ne_of_lt hb')]
      exact (hf b hb).1
  done := by
    intro X hP hw hK hc i pins s σ H E I hf z hg
    subst hP hw hK
    obtain ⟨⟨old, he⟩, ht, ne⟩ := z
    obtain ⟨xs, hq, hx⟩ := hg
    obtain ⟨us, rv, p, hz⟩ := I.tuple hq
    obtain ⟨f0, f1, f2, f3, f4, f5⟩ := hf it (by simp)
    have p : s.heap.IsTuple a us.toArray := p
    have hl := rv.length
    have D : Draws X.prog X.w X.A.in1 it [it, a] i (fun _ _ => True) (fun k h => k = i ∧ h.IsTupleIter it a k ∧ h.IsTuple a us.toArray) := {
      live := fun _ _ z => let ⟨_, ⟨o, ho, _⟩, _⟩ := z; ⟨o, ho⟩
      frame := fun _ _ _ z hk => ⟨z.1, z.2.1.at fun o e => hk it (by simp) o e, z.2.2.at fun o e => hk a (by simp) o e⟩
      item := fun k s Q E hk z _ => by omega
      done := fun s Q E z hE => wpAny_nextOf_tuple_end (show X.A.in1.handled = none from I.ok.hd hc) z.2.1 z.2.2 (by simp; omega) hE }
    exact wpAny_pyNext_enum_endD D he ⟨rfl, ht, p⟩ fun h' eb => ⟨rfl, I.turned (t' := s.toks) (fun b o hb q => eb b o hb q) f0 f1 f3 f4 f5⟩
  self := fun A i s Q E z h => let ⟨⟨_, he⟩, _⟩ := z; wpAny_pyIter_enum he h
def iEnumA (K : PySem.W.Frag) (te : TE) : TI := fun σ H R => te σ H fun v H1 => ∃ (a : Addr) (xs : List V), v = .ref a ∧ ((SqL K H1 a xs ∧ R (Ite K a) H1) ∨ (SqT K H1 a xs ∧ R (IteT K a) H1))
theorem pi_enumA {X : Cx} {e : Expr} {te : TE} {p pos tp : Pos} {ts : List Expr} {kk : Nat} (hg : Gl X "enumerate") (hm : X.mg "enumerate" = none) (he : PE X e te) (hs : starEach [e] X.env = (false, eval e X.env) :: starEach [] X.env) :
    PI X (.Tuple ts kk tp) (.Call (.Name "enumerate" p) [e] [] pos) (iEnumA X.K te) := by
  refine ⟨fun pins s σ H R I h => ?_⟩
  refine Call_ (ld_blt I hg hm boot_enumerate (PyProof.Rows.callWith_type1 (args_cons (thn (he.run pins s σ H _ I h) fun u s1 ⟨v, H1, I1, r1, q1⟩ => (args_nil ?_)) hs) hs rfl))
  obtain ⟨a, xs, ev, q⟩ := q1
  subst ev
  obtain rfl : u = Value.ref a := r1
  have fr2 : ∀ b, b ∈ [s1.heap.objs.size + 1, s1.heap.objs.size] → FpOk X pins H1 b := fun b hb => by
    have le : s1.heap.objs.size ≤ b := by
      rcases (show b = s1.heap.objs.size + 1 ∨ b = s1.heap.objs.size by simpa using hb) with z | z <;> (rw [z]; omega)
    exact I1.fpOk le (I1.hok.fresh le)
  rcases q with ⟨hq, q⟩ | ⟨hq, q⟩
  · obtain ⟨us, rv, p', hz⟩ := I1.list hq
    refine call_enumerate_list p'.isList ?_
    intro h' he ht hsz hk
    refine wpAny_pyIter_enum he ?_
    exact ⟨s1.heap.objs.size + 1, [s1.heap.objs.size + 1, s1.heap.objs.size], _, _, H1, rfl, I1.kept (t' := s1.toks) hk, turn_enum a (s1.heap.objs.size + 1) s1.heap.objs.size, ⟨⟨.none, he⟩, ht, Nat.succ_ne_self _⟩, fr2, q⟩
  · obtain ⟨us, rv, p', hz⟩ := I1.tuple hq
    refine call_enumT (show s1.heap.IsTuple a us.toArray from p') ?_
    intro h' he ht hk
    refine wpAny_pyIter_enum he ?_
    exact ⟨s1.heap.objs.size + 1, [s1.heap.objs.size + 1, s1.heap.objs.size], _, _, H1, rfl, I1.kept (t' := s1.toks) hk, turn_enumT a (s1.heap.objs.size + 1) s1.heap.objs.size, ⟨⟨.none, he⟩, ht, Nat.succ_ne_self _⟩, fr2, q⟩
section
variable {K : PySem.W.Frag} {G : Addr → Prop} {H : Hp} {items : List PyData}
theorem enumP_get {xs : List PyData} {i : Nat} {p : PyData} (h : (enumP xs)[i]? = some p) : ∃ q, xs[i]? = some q ∧ p = .tuple [.int (i : Nat), q] := by
  unfold enumP at h
  rw [List.getElem?_mapIdx] at h
  cases e : xs[i]? with
  | none => rw [e] at h; cases h
  | some q => rw [e] at h; exact ⟨q, rfl, (Option.some.inj h).symm⟩
theorem enumP_len (xs : List PyData) : (enumP xs).length = xs.length := by unfold enumP; simp
theorem pair_new {G : Addr → Prop} {H1 : Hp} {T : Addr} {p q : PyData} {v u : V} (hT : H1 T = none) (r1 : Rep K G H1 p v) (r2 : Rep K G H1 q u) : Same H1 (upd H1 T (.tup [v, u])) ∧ Rep K G (upd H1 T (.tup [v, u])) (.tuple [p, q]) (.ref T) := by
  have sm := upd_same_grow (o := .tup [v, u]) hT
  refine ⟨sm, ?_⟩
  unfold Rep
  refine ⟨T, [v, u], rfl, .of upd_same, ?_⟩
  unfold Reps
  exact ⟨Rep.grow sm _ _ r1, by unfold Reps; exact ⟨Rep.grow sm _ _ r2, by unfold Reps; trivial⟩⟩
theorem itOk_enumL {a : Addr} {vs : List V} (ft : FT G H) (ls : LsR K G H a vs) (r : Reps K G H items vs) : ItOk K G H (Ite K a) (enumP items) := fun Z hZ i H1 ex => by
  have sq1 : SqL K H1 a vs := (ls.ext ex).sql
  have r1 := Reps.extN (F := fun a => G a ∨ Z a) (H' := H1) (fun b o f e => f.elim (fun f => ft.nt b o f e) fun f => by rw [hZ b f] at e; cases e) (fun b o e n => ex b o e fun z => n (.inl z)) _ _ (reps_avoidZ hZ _ _ r)
  refine ⟨fun p hp => ?_, fun hi => ⟨vs, sq1, by rw [r.length]; rw [enumP_len] at hi; exact hi⟩⟩
  obtain ⟨q, hq, rfl⟩ := enumP_get hp
  obtain ⟨v, ev, _⟩ := r1.get hq
  refine ⟨⟨vs, v, sq1, ev⟩, fun x H2 y => ?_⟩
  obtain ⟨T, z, rfl, hT, rfl, y⟩ := y
  exact pair_new hT rep_int (r1.get' (y vs sq1) hq)
theorem itOk_enumT {a : Addr} {vs : List V} (ft : FT G H) (sq : SqT K H a vs) (r : Reps K G H items vs) : ItOk K G H (IteT K a) (enumP items) := fun Z hZ i H1 ex => by
  have sq1 : SqT K H1 a vs := sqT_ext sq ft ex
  have r1 := Reps.extN (F := fun a => G a ∨ Z a) (H' := H1) (fun b o f e => f.elim (fun f => ft.nt b o f e) fun f => by rw [hZ b f] at e; cases e) (fun b o e n => ex b o e fun z => n (.inl z)) _ _ (reps_avoidZ hZ _ _ r)
  refine ⟨fun p hp => ?_, fun hi => ⟨vs, sq1, by rw [r.length]; rw [enumP_len] at hi; exact hi⟩⟩
  obtain ⟨q, hq, rfl⟩ := enumP_get hp
  obtain ⟨v, ev, _⟩ := r1.get hq
  refine ⟨⟨vs, v, sq1, ev⟩, fun x H2 y => ?_⟩
  obtain ⟨T, z, rfl, hT, rfl, y⟩ := y
  exact pair_new hT rep_int (r1.get' (y vs sq1) hq)
theorem itOk_revL {a : Addr} {vs : List V} (ft : FT G H) (ls : LsR K G H a vs) (r : Reps K G H items vs) : ItOk K G H (Itv K a vs.length) items.reverse := fun Z hZ i H1 ex => by
  have sq1 : SqL K H1 a vs := (ls.ext ex).sql
  have hl := r.length
  have r1 := Reps.extN (F := fun a => G a ∨ Z a) (H' := H1) (fun b o f e => f.elim (fun f => ft.nt b o f e) fun f => by rw [hZ b f] at e; cases e) (fun b o e n => ex b o e fun z => n (.inl z)) _ _ (reps_avoidZ hZ _ _ r)
  refine ⟨fun p hp => ?_, fun hi => by rw [List.length_reverse] at hi; rw [hl]; exact hi⟩
  have hi := get_lt hp
  rw [List.length_reverse] at hi
  rw [List.getElem?_reverse hi, ← hl] at hp
  obtain ⟨v, ev, _⟩ := r1.get hp
  refine ⟨⟨by omega, vs, v, sq1, ev⟩, fun x H2 y => ?_⟩
  obtain ⟨e, y⟩ := y
  subst e
  exact ⟨Same.refl _, r1.get' (y vs sq1) hp⟩
theorem itOk_revT {a : Addr} {vs : List V} (ft : FT G H) (sq : SqT K H a vs) (r : Reps K G H items vs) : ItOk K G H (RT.ItvT K a vs.length) items.reverse := fun Z hZ i H1 ex => by
  have sq1 : SqT K H1 a vs := sqT_ext sq ft ex
  have hl := r.length
  have r1 := Reps.extN (F := fun a => G a ∨ Z a) (H' := H1) (fun b o f e => f.elim (fun f => ft.nt b o f e) fun f => by rw [hZ b f] at e; cases e) (fun b o e n => ex b o e fun z => n (.inl z)) _ _ (reps_avoidZ hZ _ _ r)
  refine ⟨fun p hp => ?_, fun hi => by rw [List.length_reverse] at hi; rw [hl]; exact hi⟩
  have hi := get_lt hp
  rw [List.length_reverse] at hi
  rw [List.getElem?_reverse hi, ← hl] at hp
  obtain ⟨v, ev, _⟩ := r1.get hp
  refine ⟨⟨by omega, vs, v, sq1, ev⟩, fun x H2 y => ?_⟩
  obtain ⟨e, y⟩ := y
  subst e
  exact ⟨Same.refl _, r1.get' (y vs sq1) hp⟩
end
section
variable {T : Tb} {x : Str} {pos p2 p : Pos} {a b c e tg : Expr} {es : List Expr} {ia ib ic ie : E} {is : List E}
theorem si_enm {ts : List Expr} {kk : Nat} (hg : gloB T.scope "enumerate" = true) (hb : ("enumerate" : Str) ∈ T.blts) (ha : SE T a ia) : SI T (.Tuple ts kk p2) (.Call (.Name "enumerate" p) [a] [] pos) .enm [ia] := by
  refine ⟨rfl, fun Y W Φ X ok => PI.imp (pi_enumA (gloB_ok ok hg) (ok.blt _ hb) (ha.2 Y W Φ X ok) (plainE_star ha.1 _ _)) fun σ H Q ⟨ρ, F, H0, er, h⟩ => ?_⟩
  refine ⟨ρ, F, H0, er, (evEs_one h).mono fun z hz v H1 s1 r1 i1 => ?_⟩
  have sub : ∀ b, FX F (lks [ia]) σ ρ b → FX F (lk ia) σ ρ b := FX.mono fun i hi => by unfold lks; exact List.mem_append_left _ hi
  have ft := (er.grow s1).ftX (lks [ia])
  have r := r1.1
  cases z with
  | list xs =>
    unfold Rep at r
    obtain ⟨ad, vs, rfl, ls, r⟩ := r
    exact ⟨ad, vs, rfl, .inl ⟨ls.sql, hz _ H1 s1 (itOk_enumL ft (ls.sub sub) (r.sub sub))⟩⟩
  | tuple xs =>
    unfold Rep at r
    obtain ⟨ad, vs, rfl, sq, r⟩ := r
    exact ⟨ad, vs, rfl, .inr ⟨sq.sq, hz _ H1 s1 (itOk_enumT ft sq (r.sub sub))⟩⟩
  | _ => exact False.elim hz
theorem si_rev (hg : gloB T.scope "reversed" = true) (hb : ("reversed" : Str) ∈ T.blts) (ha : SE T a ia) : SI T tg (.Call (.Name "reversed" p) [a] [] pos) .rev [ia] := by
  refine ⟨rfl, fun Y W Φ X ok => PI.imp (RT.pi_revA (gloB_ok ok hg) (ok.blt _ hb) (ha.2 Y W Φ X ok) (plainE_star ha.1 _ _)) fun σ H Q ⟨ρ, F, H0, er, h⟩ => ?_⟩
  refine ⟨ρ, F, H0, er, (evEs_one h).mono fun z hz v H1 s1 r1 i1 => ?_⟩
  have sub : ∀ b, FX F (lks [ia]) σ ρ b → FX F (lk ia) σ ρ b := FX.mono fun i hi => by unfold lks; exact List.mem_append_left _ hi
  have ft := (er.grow s1).ftX (lks [ia])
  have r := r1.1
  cases z with
  | list xs =>
    unfold Rep at r
    obtain ⟨ad, vs, rfl, ls, r⟩ := r
    exact ⟨ad, vs, rfl, .inl ⟨ls.sql, hz _ H1 s1 (itOk_revL ft (ls.sub sub) (r.sub sub))⟩⟩
  | tuple xs =>
    unfold Rep at r
    obtain ⟨ad, vs, rfl, sq, r⟩ := r
    exact ⟨ad, vs, rfl, .inr ⟨sq.sq, hz _ H1 s1 (itOk_revT ft sq (r.sub sub))⟩⟩
  | _ => exact False.elim hz
end
end L2.Pu
namespace L2.Pu
open PySem PySem.Spec PyProof.Rows
def Tb.inner (T : Tb) (scope : Scope) : Tb := { T with scope := relS scope T.scope, fnb := fun x => scope.names.lookup x == some .cell, tp := false }
theorem cx_blk {Y : Xsys} {W : XW} {T : Tb} {Φ : Nat → List PyData → R PyData} {X : Cx} (ok : CxOk Y W T Φ X) (s : Shared) (H : Hp) (scope : Scope) (C : Addr) (cl : List (Str × Addr)) (fp : List Addr) :
    CxOk Y (fun _ _ => False) (T.inner scope) Φ (X.blk s H scope (compEnvC scope cl C X.env) fp) where
  N := ok.N
  nd := ok.nd
  sc := by show relS scope X.env.scope = relS scope T.scope; rw [ok.sc]
  fnb := fun x h => h
  calm := ok.calm
  room := ok.room
  roomW := ok.roomW
  wv := ok.wv
  units := ok.units
  unitsM := ok.unitsM
  pass := fun _ _ _ _ _ _ _ _ h => (pass_no h).elim
  tk := fun z => Bool.noConfusion (show false = true from z)
  stk := fun z => Bool.noConfusion (show false = true from z)
  cls := ok.cls
  exs := ok.exs
  nk := ok.nk
  own := PassesOwn.never
  fns := ok.fns
  fnr := ok.fnr
  fnv := ok.fnv
  hot := ok.hot
  fnh := ok.fnh
  blt := ok.blt
  glb := ok.glb
/-- a clause's tests -/
def SC (T : Tb) (ifs : List Expr) (ic : Option E) : Prop := ∀ (Y : Xsys) (W : XW) (Φ : Nat → List PyData → R PyData) (X : Cx), CxOk Y W T Φ X → PTs X ifs (rdT (Y.kb X.K) W (evC Φ ic))
section
variable {T : Tb}
theorem sc_none : SC T [] none := fun Y W Φ X ok => ⟨fun pins s σ H Q I ⟨ρ, F, H0, er, h⟩ => pts_nil.run pins s σ H Q I (h H (Same.refl H))⟩
theorem sc_one {c : Expr} {ic : E} (h : ST T c ic) : SC T [c] (some ic) := fun Y W Φ X ok => pts_one (PT.imp (h Y W Φ X ok) fun σ H Q ⟨ρ, F, H0, er, q⟩ => ⟨ρ, F, H0, er, by unfold evC at q; exact q⟩)
end
section
variable {K : KB} {F : Addr → Prop} {H0 H H1 : Hp} {σ : L2.St} {ρ : PEnv}
theorem wipe_get {α : Type} (w : List (Option α) → List Nat → List (Option α)) (h0 : ∀ l, w l [] = l) (h1 : ∀ l v vs, w l (v :: vs) = (w l vs).set v none) (l : List (Option α)) : ∀ (vs : List Nat), (w l vs).length = l.length ∧ ∀ j, (w l vs)[j]? = if j ∈ vs then (if j < l.length then some none else none) else l[j]?
  | [] => ⟨by rw [h0], fun j => by rw [h0, if_neg (by simp)]⟩
  | v :: vs => by
    obtain ⟨hl, hg⟩ := wipe_get w h0 h1 l vs
    refine ⟨by rw [h1, List.length_set, hl], fun j => ?_⟩
    rw [h1]
    by_cases e : v = j
    · subst e
      rw [if_pos List.mem_cons_self]
      by_cases hv : v < l.length
      · rw [if_pos hv, List.getElem?_set_self (by rw [hl]; exact hv)]
      · rw [if_neg hv, List.getElem?_eq_none (by rw [List.length_set, hl]; omega)]
    · rw [List.getElem?_set_ne e, hg]
      have : (j ∈ v :: vs) ↔ j ∈ vs := by
        rw [List.mem_cons]
        exact ⟨fun z => z.elim (fun z => absurd z.symm e) (fun z => z), .inr⟩
      by_cases hm : j ∈ vs
      · rw [if_pos hm, if_pos (this.mpr hm)]
      · rw [if_neg hm, if_neg fun z => hm (this.mp z)]
theorem wipeV (σ : L2.St) (vs : List Nat) : (wipe σ vs).length = σ.length ∧ ∀ j, (wipe σ vs)[j]? = if j ∈ vs then (if j < σ.length then some none else none) else σ[j]? := wipe_get wipe (fun _ => rfl) (fun _ _ _ => rfl) σ vs
theorem wipeE (ρ : PEnv) (vs : List Nat) : (wipeP vs ρ).length = ρ.length ∧ ∀ j, (wipeP vs ρ)[j]? = if j ∈ vs then (if j < ρ.length then some none else none) else ρ[j]? := wipe_get (fun l vs => wipeP vs l) (fun _ => rfl) (fun _ _ _ => rfl) ρ vs
theorem wipeE_some {vs : List Nat} {j : Nat} {bp : Bool × PyData} (h : (wipeP vs ρ)[j]? = some (some bp)) : j ∉ vs ∧ ρ[j]? = some (some bp) := by
  rw [(wipeE ρ vs).2] at h
  by_cases hm : j ∈ vs
  · rw [if_pos hm] at h
    split at h <;> cases h
  · rw [if_neg hm] at h
    exact ⟨hm, h⟩
theorem wipe_again {σ σ2 : L2.St} {vs : List Nat} (hl : σ2.length = σ.length) (h : ∀ j, j ∉ vs → σ2[j]? = (wipe σ vs)[j]?) : wipe σ2 vs = wipe σ vs := by
  refine List.ext_getElem? fun j => ?_
  rw [(wipeV σ2 vs).2, (wipeV σ vs).2]
  by_cases hm : j ∈ vs
  · rw [if_pos hm, if_pos hm, hl]
  · rw [if_neg hm, if_neg hm, h j hm, (wipeV σ vs).2, if_neg hm]
/-- a block's start: the new list at D -/
theorem EnvRep.block (E : EnvRep K F H0 H1 σ ρ) {D : Addr} (hD : H1 D = none) (vs : List Nat) : EnvRep K (fun b => F b ∨ b = D) H0 (upd H1 D (.lst [])) (wipe σ vs) (wipeP vs ρ) := by
  have sm := upd_same_grow (o := .lst []) hD
  have sub : ∀ a, FX (fun b => F b ∨ b = D) [] (wipe σ vs) (wipeP vs ρ) a → FX F [] σ ρ a ∨ a = D := fun a z => by
    rcases z with (z | z) | ⟨j, q, hj, e1, e2⟩
    · exact .inl (.inl z)
    · exact .inr z
    · obtain ⟨hm, e3⟩ := wipeE_some e1
      rw [(wipeV σ vs).2, if_neg hm] at e2
      exact .inl (.inr ⟨j, q, hj, e3, e2⟩)
  refine ⟨by rw [(wipeV σ vs).1, (wipeE ρ vs).1]; exact E.len, fun j q e => ?_, fun j q e => ?_, fun j k q q' a e1 e2 e3 e4 => ?_, E.same.trans sm, fun a z => ?_, E.bs⟩
  · obtain ⟨hm, e⟩ := wipeE_some e
    obtain ⟨w, e1, r1⟩ := E.val j q e
    exact ⟨w, by rw [(wipeV σ vs).2, if_neg hm]; exact e1, Rep.sub sub _ _ (Rep.grow sm _ _ (rep_avoid hD _ _ r1))⟩
  · obtain ⟨hm, e⟩ := wipeE_some e
    obtain ⟨a, e2, e4, e5, r1⟩ := E.ow j q e
    obtain ⟨_, e3, _⟩ := r1.mut
    exact ⟨a, by rw [(wipeV σ vs).2, if_neg hm]; exact e2, (fun z => (show F a ∨ a = D from z).elim e4 fun z => by rw [z, hD] at e3; cases e3), e5, r1.move (fun _ e => sm _ _ e) fun _ _ r => Reps.sub sub _ _ (Reps.grow sm _ _ (reps_avoid hD _ _ r))⟩
  · obtain ⟨hm, e1⟩ := wipeE_some e1
    obtain ⟨hm2, e2⟩ := wipeE_some e2
    rw [(wipeV σ vs).2, if_neg hm] at e3
    rw [(wipeV σ vs).2, if_neg hm2] at e4
    exact E.inj j k q q' a e1 e2 e3 e4
  · rcases z with z | z
    · obtain ⟨xs, e, m⟩ := E.ft a z
      exact ⟨xs, sm _ _ e, m⟩
    · exact ⟨_, by rw [z, upd_same], .inl ⟨_, rfl⟩⟩
end
section
variable {T : Tb} {pos : Pos} {elt tg iter : Expr} {ifs : List Expr} {scope : Scope} {own : List (Str × Nat)} {itg : Tg} {s : Src} {is : List E} {ic : Option E} {ie : E}
/-- tLc, and what is in B stays through the loop -/
def tLcB (B : Hp) (wi : TI) (g : TG) (tt : TT) (te : TE) (vs : List Nat) : TE := fun σ H Q => wi σ H fun J H1 => ∀ D, H1 D = none → ∃ W : Nat → Nat → Hp → Prop, (∃ m, W 0 m (upd H1 D (.lst []))) ∧ ∀ i m H, W i m H → Same B H ∧
  ((J.stop i H ∧ Q (.ref D) H) ∨ (J.go i H ∧ ∃ Nx : Hp → Prop, (∀ H', Nx H' → ∃ m', m' < m ∧ W (i + 1) m' H') ∧ ∀ x H', J.yld i H x H' → g x (wipe σ vs) H' fun σ2 H2 => wipe σ2 vs = wipe σ vs ∧ tt σ2 H2 fun b H3 =>
    if b = true then te σ2 H3 fun y H4 => ∃ acc, H4 D = some (.lst acc) ∧ acc.length < sizeLine ∧ Nx (upd H4 D (.lst (acc ++ [y]))) else Nx H3))
theorem tLcB_lc {B : Hp} {K : KB} {W : XW} {ev : PEnv → R (List PyData)} {lk : List Nat} {g : TG} {tt : TT} {te : TE} {vs : List Nat} {σ : L2.St} {H : Hp} {Q : VK} (h : tLcB B (rdI K W ev lk) g tt te vs σ H Q) : tLc (rdI K W ev lk) g tt te vs σ H Q := by
  obtain ⟨ρ, F, H0, er, h⟩ := h
  refine ⟨ρ, F, H0, er, h.mono fun items hi J H1 s1 it D hD => ?_⟩
  obtain ⟨Wk, w0, st⟩ := hi J H1 s1 it D hD
  exact ⟨Wk, w0, fun i m H w => (st i m H w).2⟩
theorem comp_readB {K : KB} {W : XW} {Φ : Nat → List PyData → R PyData} (ht : ∀ j, j ∈ tgSlots itg → j ∈ own.map (·.2)) {σ : L2.St} {H : Hp} {Q : VK}
    (h : rd K W (evE Φ (.comp (own.map (·.2)) itg s is ic ie)) (lk (.comp (own.map (·.2)) itg s is ic ie)) (lkI (.comp (own.map (·.2)) itg s is ic ie)) true σ H Q) :
    tLcB K.B (rdI K W (fun ρ => (evEs Φ is ρ).bind (srcItems s)) (lks is)) (gP K itg) (rdT K (fun _ _ => False) (evC Φ ic)) (rd K (fun _ _ => False) (evE Φ ie) (lk ie) (lkI ie) (fresh ie)) (own.map (·.2)) σ H Q := by
  generalize hvs : own.map (·.2) = vs at *
  obtain ⟨ρ, F, H0, er, h⟩ := h
  unfold evE at h
  rw [← bind_assoc] at h
  refine ⟨ρ, F, H0, er, (RP.bind h).mono fun items hi J H1 s1 it D hD => ?_⟩
  obtain ⟨c, hi⟩ := RP.guard hi
  have hi := RP.bind hi
  rw [Bool.and_eq_true, List.all_eq_true] at c
  obtain ⟨c1, c2⟩ := c
  have er1 := (er.grow s1).share (lks is)
  have er2 := er1.block hD vs
  -- what is owned ahead is owned within
  have keepO : ∀ {σ' : L2.St} {ρ' : PEnv} (L : List Nat), (∀ j, j ∉ vs → σ'[j]? = (wipe σ vs)[j]?) → (∀ j, j ∉ vs → ρ'[j]? = (wipeP vs (share (lks is) ρ))[j]?) → ∀ a, FX F (lks is ++ L) σ ρ a ∨ a = D → FX (fun b => F b ∨ b = D) L σ' ρ' a := fun {σ' ρ'} L hs hr a z => by
    rcases z with (z | ⟨j, q, hj, e1, e2⟩) | z
    · exact .inl (.inl z)
    · have nv : j ∉ vs := fun hm => by
        have := c1 j hm
        unfold notOwn at this
        rw [e1] at this
        cases this
      refine .inr ⟨j, q, fun z => hj (List.mem_append_right _ z), ?_, ?_⟩
      · rw [hr j nv, (wipeE _ vs).2, if_neg nv]
        have nl : j ∉ lks is := fun z => hj (List.mem_append_left _ z)
        clear hi c1 c2 hj er1 er2 hr hs it
        generalize lks is = L' at nl
        induction L' with
        | nil => exact e1
        | cons i L' ih =>
          have ih := ih fun z => nl (List.mem_cons_of_mem _ z)
          show ((share L' ρ).modify i share1)[j]? = _
          rw [List.getElem?_modify, ih]
          have ne : i ≠ j := fun z => nl (by rw [z]; exact List.mem_cons_self)
          simp [ne]
      · rw [hs j nv, (wipeV σ vs).2, if_neg nv]
        exact e2
    · exact .inl (.inr z)
  let G : Addr → Prop := fun b => FX F (lks is ++ lk ie) σ ρ b ∨ b = D
  let Pv : Nat → Hp → Prop := fun i H2 => ∃ (ys : List PyData) (acc : List V), H2 D = some (.lst acc) ∧ Reps K G H2 ys acc ∧ acc.length ≤ i ∧ (∀ b o, H1 b = some o → H2 b = some o) ∧
    RP (fun _ _ => False) (compGo (evE Φ ie) (evC Φ ic) itg (wipeP vs (share (lks is) ρ)) (items.drop i)) fun rest => RP W (.ok (.list (ys ++ rest)) : R PyData) fun p => ∀ v H', Same H H' → RepR K (FX F (lks is ++ lk ie) σ ρ) H H' true p v → RepI K (FX F (lks is ++ lk ie) σ ρ) H' p v → Q v H'
  have ftG : ∀ {H2 : Hp}, (∀ b o, H1 b = some o → H2 b = some o) → FT (FX F (lks is) σ ρ) H2 := fun hx a z => by
    obtain ⟨xs, e, m⟩ := (er.grow s1).ftX (lks is) a z
    exact ⟨xs, hx _ _ e, m⟩
  have h0 : Pv 0 (upd H1 D (.lst [])) := ⟨[], [], upd_same, by unfold Reps; trivial, Nat.le_refl _, fun b o e => upd_same_grow hD _ _ e, RP.calm hi⟩
  refine ⟨fun i m H2 => m = items.length - i ∧ i ≤ items.length ∧ Pv i H2, ⟨_, rfl, Nat.zero_le _, h0⟩, ?_⟩
  rintro i m H2 ⟨rfl, hle, ys, acc, eD, rA, lA, hx, hgo⟩
  refine ⟨(er.bs.trans er.same).trans (s1.trans hx), ?_⟩
  obtain ⟨go, stop⟩ := it (fun b => b = D) (fun b e => by rw [e]; exact hD) i H2 (fun b o e _ => hx b o e)
  by_cases hlt : i < items.length
  · obtain ⟨g1, g2⟩ := go items[i] (List.getElem?_eq_getElem hlt)
    refine .inr ⟨g1, Pv (i + 1), fun H' p' => ⟨items.length - (i + 1), by omega, rfl, hlt, p'⟩, fun x H3 y => ?_⟩
    obtain ⟨s3, rx⟩ := g2 x H3 y
    -- the names within
    have e3 : EnvRep K (fun b => F b ∨ b = D) H0 H3 (wipe σ vs) (wipeP vs (share (lks is) ρ)) := by
      refine er2.ext (fun b o e nb => ?_) (fun a z => ?_) (er.same.trans (s1.trans fun b o e => s3 _ _ (hx b o e)))
      · have nb : b ≠ D := fun z => nb (.inr z)
        rw [upd_ne nb] at e
        exact s3 _ _ (hx b o e)
      · rcases z with z | z
        · obtain ⟨xs, e, m⟩ := er.ft a z
          exact ⟨xs, s3 _ _ (hx _ _ (s1 _ _ e)), m⟩
        · exact ⟨_, by rw [z]; exact s3 _ _ eD, .inl ⟨_, rfl⟩⟩
    have rx2 : Rep K (FX (fun b => F b ∨ b = D) [] (wipe σ vs) (wipeP vs (share (lks is) ρ))) H3 items[i] x := by
      have nD : ∀ a, FX (fun b => F b ∨ b = D) [] (wipe σ vs) (wipeP vs (share (lks is) ρ)) a → FX F (lks is) σ ρ a ∨ a = D := fun a z => by
        rcases z with (z | z) | ⟨j, q, hj, e1, e2⟩
        · exact .inl (.inl z)
        · exact .inr z
        · obtain ⟨hm, e1⟩ := wipeE_some e1
          rw [(wipeV σ vs).2, if_neg hm] at e2
          exact .inl (share_own (lks is) a (.inr ⟨j, q, hj, e1, e2⟩))
      exact Rep.sub nD _ _ rx
    have hgo2 : RP (fun _ _ => False) ((setTg itg false items[i] (wipeP vs (share (lks is) ρ))).bind fun ρ1 => (evC Φ ic ρ1).calm.bind fun b =>
      if b = true then (evE Φ ie ρ1).calm.bind fun y => (compGo (evE Φ ie) (evC Φ ic) itg (wipeP vs (share (lks is) ρ)) (items.drop (i + 1))).bind fun ys => .ok (y :: ys) else compGo (evE Φ ie) (evC Φ ic) itg (wipeP vs (share (lks is) ρ)) (items.drop (i + 1)))
      (fun rest => RP W (.ok (.list (ys ++ rest)) : R PyData) fun p => ∀ v H', Same H H' → RepR K (FX F (lks is ++ lk ie) σ ρ) H H' true p v → RepI K (FX F (lks is ++ lk ie) σ ρ) H' p v → Q v H') := by
      rw [List.drop_eq_getElem_cons hlt] at hgo
      unfold compGo at hgo
      exact hgo
    have l3 := e3.len
    refine g_ok e3 rx2 (RP.bind hgo2) fun σ4 ρ4 e4 hgo4 kp => ?_
    have l4 : σ4.length = σ.length := by
      rw [← kp.len, (wipeV σ vs).1]
    refine ⟨wipe_again l4 fun j hj => kp.st j fun z => hj (ht j z), ?_⟩
    refine ⟨ρ4, _, H0, e4, (RP.calm (RP.bind hgo4)).mono fun b hb H5 s5 => ?_⟩
    have hx5 : ∀ b o, H1 b = some o → H5 b = some o := fun b o e => s5 _ _ (s3 _ _ (hx b o e))
    have eD5 : H5 D = some (.lst acc) := s5 _ _ (s3 _ _ eD)
    have rA5 := Reps.grow (s3.trans s5) _ _ rA
    cases b with
    | false => exact ⟨ys, acc, eD5, rA5, Nat.le_succ_of_le lA, hx5, hb⟩
    | true =>
      refine ⟨ρ4, _, H0, e4.grow s5, (RP.calm (RP.bind (show RP (fun _ _ => False) ((evE Φ ie ρ4).calm.bind fun y => (compGo (evE Φ ie) (evC Φ ic) itg (wipeP vs (share (lks is) ρ)) (items.drop (i + 1))).bind fun ys => .ok (y :: ys)) _ from hb))).mono fun y hy v H6 s6 r6 i6 => ?_⟩
      have eD6 : H6 D = some (.lst acc) := s6 _ _ eD5
      have rA6 := Reps.grow s6 _ _ rA5
      have ry : Rep K G H6 y v := Rep.sub (keepO (lk ie) (fun j hj => kp.st j fun z => hj (ht j z)) fun j hj => kp.en j fun z => hj (ht j z)) _ _ r6.1
      refine ⟨acc, eD6, by rw [sizeLine_eq]; have := of_decide_eq_true (show decide (items.length ≤ 16000000) = true from c2); omega, ys ++ [y], acc ++ [v], upd_same, ?_, by rw [List.length_append]; show acc.length + 1 ≤ i + 1; omega, fun b o e => ?_, ?_⟩
      · have ex : Ext G H6 (upd H6 D (.lst (acc ++ [v]))) := fun b o e nb => by
          rw [upd_ne fun z => nb (.inr z)]; exact e
        have ftg : FT G H6 := fun a z => by
          rcases z with z | z
          · obtain ⟨xs, e, m⟩ := (er.grow s1).ftX (lks is ++ lk ie) a z
            exact ⟨xs, s6 _ _ (hx5 _ _ e), m⟩
          · exact ⟨_, by rw [z]; exact eD6, .inl ⟨_, rfl⟩⟩
        have r1 := Reps.append rA6 (show Reps K G H6 [y] [v] by unfold Reps; exact ⟨ry, by unfold Reps; trivial⟩)
        exact Reps.ext ftg ex _ _ r1
      · have nb : b ≠ D := fun z => by rw [z, hD] at e; cases e
        rw [upd_ne nb]
        exact s6 _ _ (hx5 _ _ e)
      · exact (RP.bind hy).mono fun rest hr => by
          rw [List.append_assoc]
          exact hr
  · have e : i = items.length := by omega
    subst e
    refine .inl ⟨stop (Nat.le_refl _), ?_⟩
    rw [List.drop_length] at hgo
    have hgo : ∀ v H', Same H H' → RepR K (FX F (lks is ++ lk ie) σ ρ) H H' true (.list (ys ++ [])) v → RepI K (FX F (lks is ++ lk ie) σ ρ) H' (.list (ys ++ [])) v → Q v H' := hgo
    rw [List.append_nil] at hgo
    have nD : ¬ FX F (lks is ++ lk ie) σ ρ D := fun z => by
      obtain ⟨xs, e, _⟩ := (er.grow s1).ftX (lks is ++ lk ie) D z
      rw [hD] at e; cases e
    have rG : Reps K (FX F (lks is ++ lk ie) σ ρ) H2 ys acc := rA.sub fun a z => .inl z
    refine hgo (.ref D) H2 (s1.trans hx) ⟨?_, fun _ ps e => ⟨D, acc, rfl, s1.free hD, eD, by cases e; exact rA⟩⟩ ⟨D, acc, rfl, .inl (.inl eD), rG⟩
    unfold Rep
    exact ⟨D, acc, rfl, .own eD nD, rG⟩
theorem comp_read {K : KB} {W : XW} {Φ : Nat → List PyData → R PyData} (ht : ∀ j, j ∈ tgSlots itg → j ∈ own.map (·.2)) {σ : L2.St} {H : Hp} {Q : VK}
    (h : rd K W (evE Φ (.comp (own.map (·.2)) itg s is ic ie)) (lk (.comp (own.map (·.2)) itg s is ic ie)) (lkI (.comp (own.map (·.2)) itg s is ic ie)) true σ H Q) :
    tLc (rdI K W (fun ρ => (evEs Φ is ρ).bind (srcItems s)) (lks is)) (gP K itg) (rdT K (fun _ _ => False) (evC Φ ic)) (rd K (fun _ _ => False) (evE Φ ie) (lk ie) (lkI ie) (fresh ie)) (own.map (·.2)) σ H Q := tLcB_lc (comp_readB ht h)
theorem se_comp (hcm : T.cm = true) (hi : SI T tg iter s is) (hb : blkC T.N T.scope scope own = true) (ht : ∀ j, j ∈ tgSlots itg → j ∈ own.map (·.2)) (hg : SG (T.inner scope) tg itg) (hc : SC (T.inner scope) ifs ic) (he : SE (T.inner scope) elt ie) :
    SE T (.ListComp elt [⟨tg, iter, ifs, 0⟩] scope pos) (.comp (own.map (·.2)) itg s is ic ie) := by
  refine ⟨rfl, fun Y W Φ X ok => ?_⟩
  have bo : BlkOk X.N X.env.scope scope own := by rw [ok.N, ok.sc]; exact blkOk_by hb
  exact PE.imp (pe_lc (ok.calm hcm) (by rw [ok.N]; exact ok.nd) (hi.2 Y W Φ X ok) bo (fun s H C cl fp => hg Y _ Φ _ (cx_blk ok s H scope C cl fp)) (fun s H C cl fp => hc Y _ Φ _ (cx_blk ok s H scope C cl fp))
    (fun s H C cl fp => he.2 Y _ Φ _ (cx_blk ok s H scope C cl fp)) (plainE_fold hi.1 _)) fun σ H Q h => comp_read ht h
end
end L2.Pu
namespace L2.Pu
open PySem PySem.Spec PyProof.Rows
/-- what is wanted behind a statement -/
def FlP (K : KB) (F : Addr → Prop) (H0 : Hp) (fr : Bool) (D : Ends) : Fl → Prop
  | .nx ρ => ∀ σ H, EnvRep K F H0 H σ ρ → D.nx σ H
  | .bk ρ => ∀ σ H, EnvRep K F H0 H σ ρ → D.bk σ H
  | .ct ρ => ∀ σ H, EnvRep K F H0 H σ ρ → D.ct σ H
  | .rt p => ∀ v H, Same H0 H → RepR K F H0 H fr p v → D.rt v H
def rdS (K : KB) (W : XW) (fr : Bool) (ev : PEnv → R Fl) : TS := fun D σ H => ∃ ρ F H0, EnvRep K F H0 H σ ρ ∧ RP W (ev ρ) (FlP K F H0 fr D)
def SS (T : Tb) (fr : Bool) (st : Stmt) (s : S) : Prop := ∀ (Y : Xsys) (W : XW) (Φ : Nat → List PyData → R PyData) (w : Nat) (X : Cx), CxOk Y W T Φ X → PS X st (rdS (Y.kb X.K) W fr (evS Φ w s))
def SSs (T : Tb) (fr : Bool) (st : List Stmt) (s : List S) : Prop := ∀ (Y : Xsys) (W : XW) (Φ : Nat → List PyData → R PyData) (w : Nat) (X : Cx), CxOk Y W T Φ X → PSs X st (rdS (Y.kb X.K) W fr (evSs Φ w s))
section
variable {K : KB} {F : Addr → Prop} {H0 H : Hp} {σ : L2.St} {ρ : PEnv}
/-- the list that slot i owns becomes another one -/
theorem EnvRep.mutateG (E : EnvRep K F H0 H σ ρ) {i : Nat} {p qq : PyData} {a : Addr} {o : HO} (e1 : ρ[i]? = some (some (true, p))) (e2 : σ[i]? = some (some (.ref a))) (r : (FX F [] σ ρ) a → FT (FX F [] σ ρ) H → Ext (FX F [] σ ρ) H (upd H a o) → OwnO K (FX F [] σ ρ) (upd H a o) qq a) :
    EnvRep K F H0 (upd H a o) σ (ρ.set i (some (true, qq))) := by
  obtain ⟨a0, e3, nF, n0, _⟩ := E.ow i p e1
  rw [e2] at e3
  cases e3
  have own : FX F [] σ ρ a := .inr ⟨i, p, by simp, e1, e2⟩
  have ex : Ext (FX F [] σ ρ) H (upd H a o) := fun b o e n => by
    rw [upd_ne fun z => n (by rw [z]; exact own)]; exact e
  have sub : ∀ b, FX F [] σ (ρ.set i (some (true, qq))) b → FX F [] σ ρ b := fun b z => by
    rcases z with z | ⟨j, q, hj, f1, f2⟩
    · exact .inl z
    · rcases set_get f1 with ⟨ij, _⟩ | ⟨ne, f1⟩
      · subst ij
        rw [e2] at f2
        cases f2
        exact own
      · exact .inr ⟨j, q, hj, f1, f2⟩
  have ft := E.ftX []
  refine ⟨by rw [List.length_set]; exact E.len, fun j q e => ?_, fun j q e => ?_, fun j k q q' b f1 f2 f3 f4 => ?_, fun b o e => ?_, fun b z => ?_, E.bs⟩
  · rcases set_get e with ⟨_, e⟩ | ⟨ne, e⟩
    · cases e
    · obtain ⟨w, g1, r1⟩ := E.val j q e
      exact ⟨w, g1, Rep.sub sub _ _ (Rep.ext ft ex _ _ r1)⟩
  · rcases set_get e with ⟨ij, ee⟩ | ⟨ne, e⟩
    · subst ij
      cases ee
      exact ⟨a, e2, nF, n0, (r own ft ex).sub sub⟩
    · obtain ⟨a', g2, g4, g5, r1⟩ := E.ow j _ e
      have nea : a' ≠ a := fun z => ne (E.inj i j _ _ a e1 e (by exact e2) (by rw [← z]; exact g2))
      exact ⟨a', g2, g4, g5, r1.move (fun o g => by rw [upd_ne nea]; exact g) fun _ _ r1 => Reps.sub sub _ _ (Reps.ext ft ex _ _ r1)⟩
  · have back : ∀ {j : Nat} {q' : PyData}, (ρ.set i (some (true, qq)))[j]? = some (some (true, q')) → ∃ q', ρ[j]? = some (some (true, q')) := fun {j q'} f => by
      rcases set_get f with ⟨ij, _⟩ | ⟨_, f⟩
      · subst ij; exact ⟨_, e1⟩
      · exact ⟨_, f⟩
    obtain ⟨_, g1⟩ := back f1
    obtain ⟨_, g2⟩ := back f2
    exact E.inj j k _ _ b g1 g2 f3 f4
  · have ne : b ≠ a := fun z => by rw [z, n0] at e; cases e
    rw [upd_ne ne]
    exact E.same _ _ e
  · have ne : b ≠ a := fun y => nF (by rw [← y]; exact z)
    obtain ⟨xs, e, m⟩ := E.ft b z
    exact ⟨xs, by rw [upd_ne ne]; exact e, m⟩
theorem EnvRep.mutate (E : EnvRep K F H0 H σ ρ) {i : Nat} {p : PyData} {a : Addr} {ps : List PyData} {vs : List V} (e1 : ρ[i]? = some (some (true, p))) (e2 : σ[i]? = some (some (.ref a))) (r : Reps K (FX F [] σ ρ) H ps vs) :
    EnvRep K F H0 (upd H a (.lst vs)) σ (ρ.set i (some (true, .list ps))) := E.mutateG e1 e2 fun _ ft ex => ⟨vs, upd_same, Reps.ext ft ex _ _ r⟩
/-- the dict that slot i owns becomes another one -/
theorem EnvRep.mutateD (E : EnvRep K F H0 H σ ρ) {i : Nat} {a : Addr} {ks0 ks : List (PyData × PyData)} {o : HO} (e1 : ρ[i]? = some (some (true, .dict ks0))) (e2 : σ[i]? = some (some (.ref a))) (r : dkO ks = some o) (hm : isM ks = isM ks0) :
    EnvRep K F H0 (upd H a o) σ (ρ.set i (some (true, .dict ks))) := E.mutateG e1 e2 fun _ ft ex => ⟨o, r, upd_same, fun z => by
  obtain ⟨b, g, _, _, _, _, _, m⟩ := E.ow i _ e1
  rw [e2] at g
  cases g
  exact m (by rw [← hm]; exact z)⟩
theorem share_keep (L : List Nat) {j : Nat} (nl : j ∉ L) : (share L ρ)[j]? = ρ[j]? := by
  induction L with
  | nil => rfl
  | cons i L ih =>
    have ih := ih fun z => nl (List.mem_cons_of_mem _ z)
    show ((share L ρ).modify i share1)[j]? = _
    rw [List.getElem?_modify, ih]
    have ne : i ≠ j := fun z => nl (by rw [z]; exact List.mem_cons_self)
    cases ρ[j]? <;> simp [ne]
end
section
variable {T : Tb} {fr : Bool} {x : Str} {pos p2 p : Pos} {a b c e tg : Expr} {es : List Expr} {ia ib ic ie : E} {is : List E} {st : Stmt} {sts sts2 : List Stmt} {s : S} {ss ss2 : List S} {itg : Tg}
theorem sss_nil : SSs T fr [] [] := fun Y W Φ w X ok => PSs.imp pss_nil fun D σ H ⟨ρ, F, H0, er, h⟩ => h σ H er
theorem sss_cons (h1 : SS T fr st s) (h2 : SSs T fr sts ss) : SSs T fr (st :: sts) (s :: ss) := fun Y W Φ w X ok => PSs.imp (pss_cons (h1 Y W Φ w X ok) (h2 Y W Φ w X ok)) fun D σ H ⟨ρ, F, H0, er, h⟩ => by
  unfold evSs at h
  refine ⟨ρ, F, H0, er, (RP.bind h).mono fun fl hfl => ?_⟩
  cases fl with
  | nx ρ1 => exact fun σ' H' er' => ⟨ρ1, F, H0, er', hfl⟩
  | rt q => exact hfl
  | bk ρ1 => exact hfl
  | ct ρ1 => exact hfl
theorem ss_pass : SS T fr (.Pass pos) .pass := fun Y W Φ w X ok => PS.imp ps_pass fun D σ H ⟨ρ, F, H0, er, h⟩ => by
  unfold evS at h
  exact h σ H er
theorem ss_brk : SS T fr (.Break pos) .brk := fun Y W Φ w X ok => PS.imp ps_break fun D σ H ⟨ρ, F, H0, er, h⟩ => by
  unfold evS at h
  exact h σ H er
theorem ss_cnt : SS T fr (.Continue pos) .cnt := fun Y W Φ w X ok => PS.imp ps_continue fun D σ H ⟨ρ, F, H0, er, h⟩ => by
  unfold evS at h
  exact h σ H er
theorem ss_never : SS T fr st .never := fun Y W Φ w X ok => PS.imp ps_never fun D σ H ⟨ρ, F, H0, er, h⟩ => by
  unfold evS at h
  exact h
theorem ss_retN : SS T fr (.Return none pos) .retN := fun Y W Φ w X ok => PS.imp ps_retN fun D σ H ⟨ρ, F, H0, er, h⟩ => by
  unfold evS at h
  exact h .non H er.same (repR_of (by unfold Rep; rfl) rfl)
def isVarE : E → Bool
  | .var _ => true
  | _ => false
theorem ss_ret (ha : SE T a ia) (hv : fr = false ∨ isVarE ia = false) : SS T fr (.Return (some a) pos) (.ret fr ia) := fun Y W Φ w X ok => PS.imp (ps_ret (ha.2 Y W Φ X ok)) fun D σ H ⟨ρ, F, H0, er, h⟩ => by
  unfold evS at h
  refine ⟨ρ, F, H0, er, (RP.bind h).mono fun q hq v H' s r i => ?_⟩
  obtain ⟨c, hq⟩ := RP.guard hq
  refine hq v H' (er.same.trans s) ⟨Rep.sub (fun _ z => .inl z) _ _ r.1, fun ef ps eq => ?_⟩
  have hf : fresh ia = true := by
    subst ef eq
    rcases hv with hv | hv
    · cases hv
    · cases ia <;> first | (exact Bool.noConfusion (show true = false from hv)) | (simpa [isListP] using c)
  obtain ⟨ad, vs, e1, e2, e3, e4⟩ := r.2 hf ps eq
  exact ⟨ad, vs, e1, er.same.free e2, e3, Reps.sub (fun b z => z.elim (fun z => .inl (.inl z)) .inr) _ _ e4⟩
theorem ss_retv {i : Nat} (hN : T.N[i]? = some x) (hv : visB T.scope x = true) (hn : nameB x = true) : SS T true (.Return (some (.Name x p)) pos) (.ret true (.var i)) := fun Y W Φ w X ok => by
  obtain ⟨n1, n2, _⟩ := nameB_ok hn
  refine PS.imp (ps_ret (pe_var (by rw [ok.N]; exact hN) (by rw [ok.sc]; exact visB_ok hv) n1 n2)) fun D σ H ⟨ρ, F, H0, er, h⟩ => ?_
  unfold evS evE at h
  cases e : ρ[i]? with
  | none => rw [e] at h; exact False.elim h
  | some sl =>
    cases sl with
    | none => rw [e] at h; exact False.elim h
    | some bp =>
      obtain ⟨bb, q⟩ := bp
      rw [e] at h
      obtain ⟨c, hq⟩ := RP.guard (show RP W (retV true (.var i) ρ q) _ from h)
      cases bb with
      | false =>
        obtain ⟨v, e1, r⟩ := er.val i q e
        refine ⟨v, e1, hq v H er.same ⟨Rep.sub (fun _ z => .inl z) _ _ r, fun _ ps eq => ?_⟩⟩
        subst eq
        simp [isListP, fresh, isOwn, e] at c
      | true =>
        obtain ⟨ad, e1, e3, e4, ow⟩ := er.ow i q e
        refine ⟨_, e1, hq _ H er.same ⟨ow.rep e3 fun _ z => .inl z, fun _ ps' eq => ?_⟩⟩
        · cases eq
          obtain ⟨vs, e2, r⟩ := ow
          refine ⟨ad, vs, rfl, e4, e2, r.sub fun b z => ?_⟩
          rcases z with z | z
          · exact .inl z
          · subst z
            exact .inr ⟨i, _, by simp, e, e1⟩
theorem ss_drop (ha : SE T a ia) (hs : ∀ l env, swapsWith a none l env = pure false) : SS T fr (.Expr a pos) (.drop ia) := fun Y W Φ w X ok => PS.imp (ps_expr (ha.2 Y W Φ X ok) (hs _ _)) fun D σ H ⟨ρ, F, H0, er, h⟩ => by
  unfold evS at h
  exact ⟨ρ, F, H0, er, (RP.bind h).mono fun q hq v H' s r i => hq σ H' (er.grow s)⟩
theorem ss_if (hc : ST T c ic) (ha : SSs T fr sts ss) (hb : SSs T fr sts2 ss2) : SS T fr (.If c sts sts2 pos) (.ife ic ss ss2) := fun Y W Φ w X ok => PS.imp (ps_if (hc Y W Φ X ok) (ha Y W Φ w X ok) (hb Y W Φ w X ok)) fun D σ H ⟨ρ, F, H0, er, h⟩ => by
  unfold evS at h
  rw [← bind_assoc] at h
  refine ⟨ρ, F, H0, er, (RP.bind h).mono fun k hk H' s => ?_⟩
  cases k with
  | true => exact ⟨ρ, F, H0, er.grow s, hk⟩
  | false => exact ⟨ρ, F, H0, er.grow s, hk⟩
def notComp : Expr → Bool
  | .ListComp _ _ _ _ => false
  | .SetComp _ _ _ _ => false
  | .DictComp _ _ _ _ _ => false
  | _ => true
theorem notComp_sw {e : Expr} (h : notComp e = true) (t : Option Expr) (l : Nat) (env : Env) : swapsWith e t l env = pure false := by
  cases e <;> first | rfl | cases h
/-- the value's store -/
theorem store_read {K : KB} {F : Addr → Prop} {H0 H H' : Hp} {σ : L2.St} {ρ : PEnv} {q : PyData} {v : V} {D : Ends} {W : XW} (er : EnvRep K F H0 H σ ρ) (s : Same H H') (r : RepR K (FX F (lk ie) σ ρ) H H' (fresh ie) q v)
    (h : RP W ((setTg itg (fresh ie) q (share (if noList q = true then [] else lk ie) ρ)).bind fun ρ1 => .ok (.nx ρ1)) (FlP K F H0 fr D)) : gP K itg v σ H' D.nx := by
  generalize hL : (if noList q = true then [] else lk ie) = L at *
  have er1 := er.share L
  have er2 := er1.grow s
  have r2 : Rep K (FX F [] σ (share L ρ)) H' q v := by
    by_cases n : noList q = true
    · exact rep_noList _ _ n r.1
    · rw [if_neg n] at hL
      subst hL
      exact Rep.sub (share_own _) _ _ r.1
  have h := RP.bind h
  by_cases c : ∃ i ps, itg = .nm i ∧ fresh ie = true ∧ q = .list ps
  · obtain ⟨i, ps, rfl, hf, rfl⟩ := c
    have h : FlP K F H0 fr D (.nx ((share L ρ).set i (some (fresh ie && true, .list ps)))) := h
    rw [hf] at h
    obtain ⟨ad, vs, rfl, e2, e3, e4⟩ := r.2 hf ps rfl
    have n : ¬ noList (.list ps) = true := by unfold noList; simp
    rw [if_neg n] at hL
    subst hL
    exact h _ _ (er1.setOwn s i e2 e3 (e4.sub fun b z => z.elim (fun z => .inl (share_own _ _ z)) .inr))
  · refine g_ok (W := W) er2 r2 (P := fun ρ1 => RP W (.ok (.nx ρ1)) (FlP K F H0 fr D)) ?_ fun σ' ρ' e' p' _ => p' σ' H' e'
    cases itg with
    | tp is => exact h
    | nm i =>
      have hb : (fresh ie && isListP q) = false := by
        cases hf : fresh ie with
        | false => rfl
        | true =>
          cases q with
          | list ps => exact (c ⟨i, ps, rfl, hf, rfl⟩).elim
          | _ => rfl
      have h : FlP K F H0 fr D (.nx ((share L ρ).set i (some (fresh ie && isListP q, q)))) := h
      rw [hb] at h
      exact h
theorem ss_set {i : Nat} (hN : T.N[i]? = some x) (hl : locB T x = true) (ha : SE T a ie) (nc : notComp a = true) : SS T fr (.Assign [.Name x p] a pos) (.asg (.nm i) ie) := fun Y W Φ w X ok => by
  obtain ⟨h1, h2⟩ := locB_ok ok hl
  refine PS.imp (ps_set (by rw [ok.N]; exact ok.nd) (by rw [ok.N]; exact hN) h1 (ha.2 Y W Φ X ok) (notComp_sw nc _ _ _) h2) fun D σ H ⟨ρ, F, H0, er, h⟩ => ?_
  unfold evS at h
  exact ⟨ρ, F, H0, er, (RP.bind h).mono fun q hq v H' s r _ => store_read (itg := .nm i) er s r hq⟩
theorem ss_setTup {k : Nat} {ts : List Expr} {is : List Nat} (hcm : T.cm = true) (hg : SGs T ts is) (ha : SE T a ie) (nt : ∀ (env : Env), swappedStores [.Tuple ts k p] a env = pure none) : SS T fr (.Assign [.Tuple ts k p] a pos) (.asg (.tp is) ie) := fun Y W Φ w X ok => by
  refine PS.imp (ps_asg (ha.2 Y W Φ X ok) (sg_tup hcm hg Y W Φ X ok) ?_ (nt _) rfl) fun D σ H ⟨ρ, F, H0, er, h⟩ => ?_
  · show swapsWith a (some (.Tuple ts k p)) pos.line X.env = pure false
    cases a <;> rfl
  · unfold evS at h
    exact ⟨ρ, F, H0, er, (RP.bind h).mono fun q hq v H' s r _ => store_read (itg := .tp is) er s r hq⟩
end
end L2.Pu
namespace L2.Pu
open PySem PySem.Spec PyProof.Rows
section
variable {T : Tb} {fr : Bool} {x : Str} {pos p2 p apos : Pos} {a b c e tg iter : Expr} {es : List Expr} {ia ib ic ie : E} {is : List E} {st : Stmt} {sts sts2 : List Stmt} {s : S} {ss ss2 : List S} {itg : Tg}
theorem sw_cell {elt : Expr} {gs : List Comprehension} {scope : Scope} {y : Str} {py q : Pos} {l : Nat} {env : Env} (hy : env.scope.names.lookup y = some .cell) : swapsWith (.ListComp elt gs scope q) (some (.Name y py)) l env = pure false := by
  have ky : env.kindOf y = some .cell := hy
  unfold swapsWith
  simp only [ky]
  have e : (some NameKind.cell == some NameKind.local) = false := rfl
  simp [e]
theorem ss_setC {i : Nat} {elt : Expr} {gs : List Comprehension} {scope : Scope} (hN : T.N[i]? = some x) (hl : locB T x = true) (hc : T.scope.names.lookup x = some .cell) (ha : SE T (.ListComp elt gs scope p2) ie) : SS T fr (.Assign [.Name x p] (.ListComp elt gs scope p2) pos) (.asg (.nm i) ie) := fun Y W Φ w X ok => by
  obtain ⟨h1, h2⟩ := locB_ok ok hl
  refine PS.imp (ps_set (by rw [ok.N]; exact ok.nd) (by rw [ok.N]; exact hN) h1 (ha.2 Y W Φ X ok) (sw_cell (by rw [ok.sc]; exact hc)) h2) fun D σ H ⟨ρ, F, H0, er, h⟩ => ?_
  unfold evS at h
  exact ⟨ρ, F, H0, er, (RP.bind h).mono fun q hq v H' s r _ => store_read (itg := .nm i) er s r hq⟩
/-- name = [..] where the model stores from within the block -/
theorem ss_setLc {i : Nat} {elt : Expr} {ifs : List Expr} {scope : Scope} {own : List (Str × Nat)} {sr : Src} {icd : Option E} (hcm : T.cm = true) (hN : T.N[i]? = some x) (hl : T.scope.names.lookup x = some .local)
    (hsw : ∀ env : Env, env.scope.kind = .function → env.scope.names.lookup x = some .local → swapsWith (.ListComp elt [⟨tg, iter, ifs, 0⟩] scope p2) (some (.Name x p)) pos.line env = pure true)
    (hi : SI T tg iter sr is) (hb : blkC T.N T.scope scope own = true) (ht : ∀ j, j ∈ tgSlots itg → j ∈ own.map (·.2)) (hg : SG (T.inner scope) tg itg) (hc : SC (T.inner scope) ifs icd) (he : SE (T.inner scope) elt ie) :
    SS T fr (.Assign [.Name x p] (.ListComp elt [⟨tg, iter, ifs, 0⟩] scope p2) pos) (.asg (.nm i) (.comp (own.map (·.2)) itg sr is icd ie)) := fun Y W Φ w X ok => by
  have hk : X.env.scope.kind = .function ∨ True := .inr trivial
  have bo : BlkOk X.N X.env.scope scope own := by rw [ok.N, ok.sc]; exact blkOk_by hb
  have hyl : X.env.scope.names.lookup x = some .local := by rw [ok.sc]; exact hl
  refine ⟨fun pins s σ H D I h => ?_⟩
  have base : PS X (.Assign [.Name x p] (.ListComp elt [⟨tg, iter, ifs, 0⟩] scope p2) pos) (tAsg (tLc (rdI (Y.kb X.K) W (fun ρ => (evEs Φ is ρ).bind (srcItems sr)) (lks is)) (gP X.K itg) (rdT (Y.kb X.K) (fun _ _ => False) (evC Φ icd)) (rd (Y.kb X.K) (fun _ _ => False) (evE Φ ie) (lk ie) (lkI ie) (fresh ie)) (own.map (·.2))) (gName i)) :=
    ps_setLc (ok.calm hcm) (by rw [ok.N]; exact ok.nd) (by rw [ok.N]; exact hN) hyl (hsw X.env I.ok.kind hyl) (hi.2 Y W Φ X ok) bo (fun s H C cl fp => hg Y _ Φ _ (cx_blk ok s H scope C cl fp)) (fun s H C cl fp => hc Y _ Φ _ (cx_blk ok s H scope C cl fp))
    (fun s H C cl fp => he.2 Y _ Φ _ (cx_blk ok s H scope C cl fp)) (plainE_fold hi.1 _)
  refine base.run pins s σ H D I ?_
  obtain ⟨ρ, F, H0, er, h⟩ := h
  unfold evS at h
  refine comp_read ht ⟨ρ, F, H0, er, (RP.bind h).mono fun q hq v H' s r _ => ?_⟩
  exact store_read (itg := .nm i) er s r hq
theorem plainE_sub {o b : Expr} (h : plainE b = true) (env : Env) (v : Value) : assign (.Subscript o b p2) env v = (do
      let ov ← holding [v] (eval o env)
      let iv ← holding [v, ov] (eval b env)
      standAt p2
      holding [v, ov, iv] (setItem ov iv v)
      release [v, ov, iv] []) := by
  cases b <;> first | rfl | cases h
/-- x[k] = e, of a list that the name owns -/
theorem ss_sub {i : Nat} (hN : T.N[i]? = some x) (hv : visB T.scope x = true) (hn : nameB x = true) (hb : SE T b ib) (ha : SE T a ie) (nc : notComp a = true) : SS T fr (.Assign [.Subscript (.Name x p) b p2] a pos) (.sub i ib ie) := fun Y W Φ w X ok => by
  obtain ⟨n1, n2, _⟩ := nameB_ok hn
  refine PS.imp (ps_asg (ha.2 Y W Φ X ok) (pg_sub (pe_var (by rw [ok.N]; exact hN) (by rw [ok.sc]; exact visB_ok hv) n1 n2) (hb.2 Y W Φ X ok) set_list (plainE_sub hb.1 _)) ?_ ?_ ?_) fun D σ H ⟨ρ, F, H0, er, h⟩ => ?_
  · show swapsWith a (some (.Subscript (.Name x p) b p2)) pos.line X.env = pure false
    exact notComp_sw nc _ _ _
  · unfold swappedStores; rfl
  · rfl
  · unfold evS at h
    refine ⟨ρ, F, H0, er, (RP.bind h).mono fun q hq v H1 s1 r1 _ => ?_⟩
    have er1 := er.grow s1
    split at hq
    · rename_i xs e
      obtain ⟨ps, ad, vs, eq, e1, e2, _⟩ := er1.own i _ e
      cases eq
      refine ⟨_, e1, ρ, F, H0, er1, (RP.bind hq).mono fun kv hk v2 H2 s2 r2 i2 => ?_⟩
      have er2 := er1.grow s2
      cases kv with
      | int k =>
        have hk : RP W ((optR (ixN xs.length k)).bind fun j => guardR (noList q || !(lk ie).contains i) (.ok (.nx ((share (if noList q = true then [] else lk ie) ρ).set i (some (true, .list (xs.set j q))))))) (FlP (Y.kb X.K) F H0 fr D) := hk
        cases ej : ixN xs.length k with
        | none => rw [ej] at hk; exact False.elim hk
        | some j =>
          rw [ej] at hk
          obtain ⟨c, hk⟩ := RP.guard (show RP W (guardR (noList q || !(lk ie).contains i) (.ok (.nx ((share (if noList q = true then [] else lk ie) ρ).set i (some (true, .list (xs.set j q))))))) (FlP (Y.kb X.K) F H0 fr D) from hk)
          generalize hL : (if noList q = true then [] else lk ie) = L at *
          have er3 := er2.share L
          have nL : i ∉ L := by
            subst hL
            by_cases n : noList q = true
            · rw [if_pos n]; simp
            · rw [if_neg n]
              simpa [n] using c
          have e' : (share L ρ)[i]? = some (some (true, .list xs)) := by rw [share_keep L nL]; exact e
          obtain ⟨ps2, ad2, vs2, eq2, f1, f2, f3, f4, f5⟩ := er3.own i _ e'
          cases eq2
          rw [e1] at f1
          cases f1
          refine ⟨ad, vs2, k, j, rfl, two_int i2, f2, by rw [f5.length]; exact ej, ?_⟩
          have rq : Rep X.K (FX F [] σ (share L ρ)) H2 q v := by
            by_cases n : noList q = true
            · exact rep_noList _ _ n (Rep.grow s2 _ _ r1.1)
            · rw [if_neg n] at hL
              subst hL
              exact Rep.sub (share_own _) _ _ (Rep.grow s2 _ _ r1.1)
          exact hk σ _ (er3.mutate e' e1 (f5.set j rq))
      | _ => exact False.elim hk
    · exact False.elim hq
/-- x.append(e), of a list that the name owns -/
theorem ss_app {i : Nat} (hN : T.N[i]? = some x) (hv : visB T.scope x = true) (hn : nameB x = true) (ha : SE T a ie) (hline : (apos.endLine == p2.line) = true) :
    SS T fr (.Expr (.Call (.Attribute (.Name x p) "append" apos) [a] [] p2) pos) (.app i ie) := fun Y W Φ w X ok => by
  obtain ⟨n1, n2, _⟩ := nameB_ok hn
  refine PS.imp (ps_expr (pe_bm PySem.F.plainAttrs_list PySem.F.slot_list_append PySem.F.type_list_append mt_append (pe_var (by rw [ok.N]; exact hN) (by rw [ok.sc]; exact visB_ok hv) n1 n2) (pa_cons (ha.2 Y W Φ X ok) pa_nil (plainE_star ha.1 _ _))
    (by rfl) ?_ hline (plainE_star ha.1 _ _) (by rfl)) (by rfl)) fun D σ H ⟨ρ, F, H0, er, h⟩ => ?_
  · rw [plainE_star ha.1]; rfl
  · unfold evS at h
    split at h
    · rename_i xs e
      obtain ⟨ps, ad, vs, eq, e1, e2, _⟩ := er.own i _ e
      cases eq
      refine ⟨_, e1, .inl ⟨rfl, vs, .inl (.inl e2)⟩, ρ, F, H0, er, (RP.bind h).mono fun q hq v H1 s1 r1 i1 => ?_⟩
      obtain ⟨c, hq⟩ := RP.guard hq
      rw [Bool.and_eq_true] at c
      generalize hL : (if noList q = true then [] else lk ie) = L at *
      have er1 := (er.grow s1).share L
      have nL : i ∉ L := by
        subst hL
        by_cases n : noList q = true
        · rw [if_pos n]; simp
        · rw [if_neg n]
          have c2 := c.2
          simpa [n] using c2
      have e' : (share L ρ)[i]? = some (some (true, .list xs)) := by rw [share_keep L nL]; exact e
      obtain ⟨ps2, ad2, vs2, eq2, f1, f2, f3, f4, f5⟩ := er1.own i _ e'
      cases eq2
      rw [e1] at f1
      cases f1
      have rq : Rep X.K (FX F [] σ (share L ρ)) H1 q v := by
        by_cases n : noList q = true
        · exact rep_noList _ _ n r1.1
        · rw [if_neg n] at hL
          subst hL
          exact Rep.sub (share_own _) _ _ r1.1
      refine ⟨ad, vs2, v, rfl, rfl, f2, by rw [f5.length, sizeLine_eq]; have := of_decide_eq_true (show decide (xs.length ≤ 16000000) = true from c.1); omega, ?_⟩
      exact hq σ _ (er1.mutate e' e1 (f5.append (show Reps X.K _ H1 [q] [v] by unfold Reps; exact ⟨rq, by unfold Reps; trivial⟩)))
    · exact False.elim h
/-- x.extend(e), of a list that the name owns; e a new list -/
theorem ss_ext {i : Nat} (hN : T.N[i]? = some x) (hv : visB T.scope x = true) (hn : nameB x = true) (ha : SE T a ie) (hline : (apos.endLine == p2.line) = true) :
    SS T fr (.Expr (.Call (.Attribute (.Name x p) "extend" apos) [a] [] p2) pos) (.ext i ie) := fun Y W Φ w X ok => by
  obtain ⟨n1, n2, _⟩ := nameB_ok hn
  refine PS.imp (ps_expr (pe_bm PySem.F.plainAttrs_list PySem.F.slot_list_extend PySem.F.type_list_extend mt_extend (pe_var (by rw [ok.N]; exact hN) (by rw [ok.sc]; exact visB_ok hv) n1 n2) (pa_cons (ha.2 Y W Φ X ok) pa_nil (plainE_star ha.1 _ _))
    (by rfl) ?_ hline (plainE_star ha.1 _ _) (by rfl)) (by rfl)) fun D σ H ⟨ρ, F, H0, er, h⟩ => ?_
  · rw [plainE_star ha.1]; rfl
  · unfold evS at h
    split at h
    · rename_i xs e
      obtain ⟨ps, ad, vs, eq, e1, e2, _⟩ := er.own i _ e
      cases eq
      refine ⟨_, e1, .inl ⟨rfl, vs, .inl (.inl e2)⟩, ρ, F, H0, er, (RP.bind h).mono fun q hq v H1 s1 r1 i1 => ?_⟩
      cases q with
      | list ys =>
        obtain ⟨c, hq⟩ := RP.guard (show RP W (guardR (fresh ie && fitsN (xs.length + ys.length) && (noLists ys || !(lk ie).contains i)) (.ok (.nx ((share (if noLists ys = true then [] else lk ie) ρ).set i (some (true, .list (xs ++ ys))))))) (FlP (Y.kb X.K) F H0 fr D) from hq)
        rw [Bool.and_eq_true, Bool.and_eq_true] at c
        obtain ⟨b, ws, rfl, g1, g2, g3⟩ := r1.2 c.1.1 ys rfl
        generalize hL : (if noLists ys = true then [] else lk ie) = L at *
        have er1 := (er.grow s1).share L
        have nL : i ∉ L := by
          subst hL
          by_cases n : noLists ys = true
          · rw [if_pos n]; simp
          · rw [if_neg n]
            have c2 := c.2
            simpa [n] using c2
        have e' : (share L ρ)[i]? = some (some (true, .list xs)) := by rw [share_keep L nL]; exact e
        obtain ⟨ps2, ad2, vs2, eq2, f1, f2, f3, f4, f5⟩ := er1.own i _ e'
        cases eq2
        rw [e1] at f1
        cases f1
        have rq : Reps X.K (FX F [] σ (share L ρ)) H1 ys ws := by
          by_cases n : noLists ys = true
          · exact reps_noList _ _ n g3
          · rw [if_neg n] at hL
            subst hL
            exact Reps.sub (fun b z => .inl (share_own _ b z)) _ _ g3
        refine ⟨ad, b, vs2, ws, rfl, rfl, f2, g2, by rw [f5.length, rq.length]; exact fits_le c.1.2, ?_⟩
        exact hq σ _ (er1.mutate e' e1 (f5.append rq))
      | _ => exact False.elim hq
    · exact False.elim h
/-- x.clear(), of a list that the name owns -/
theorem ss_clr {i : Nat} (hN : T.N[i]? = some x) (hv : visB T.scope x = true) (hn : nameB x = true) (hline : (apos.endLine == p2.line) = true) :
    SS T fr (.Expr (.Call (.Attribute (.Name x p) "clear" apos) [] [] p2) pos) (.clr i) := fun Y W Φ w X ok => by
  obtain ⟨n1, n2, _⟩ := nameB_ok hn
  refine PS.imp (ps_expr (pe_bm0 PySem.F.plainAttrs_list PySem.F.slot_list_clear PySem.F.type_list_clear mt_clear (pe_var (by rw [ok.N]; exact hN) (by rw [ok.sc]; exact visB_ok hv) n1 n2) (by rfl) hline) (by rfl)) fun D σ H ⟨ρ, F, H0, er, h⟩ => ?_
  unfold evS at h
  split at h
  · rename_i xs e
    obtain ⟨ps, ad, vs, eq, e1, e2, _⟩ := er.own i _ e
    cases eq
    refine ⟨_, e1, .inl ⟨rfl, vs, .inl (.inl e2)⟩, ad, vs, rfl, rfl, e2, ?_⟩
    exact h σ _ (er.mutate e e1 (show Reps X.K _ H [] [] by unfold Reps; trivial))
  · exact False.elim h
end
end L2.Pu
namespace L2.Pu
open PySem PySem.Spec PyProof.Rows
section
variable {K : KB} {F : Addr → Prop} {H0 H H' : Hp} {σ σ' : L2.St} {ρ ρ' : PEnv}
/-- the heap as it stands, but for what is owned -/
noncomputable def anch (H : Hp) (σ : L2.St) (ρ : PEnv) : Hp := fun b => @ite _ (OwnX [] σ ρ b) (Classical.propDecidable _) none (H b)
theorem anch_own {b : Addr} (h : OwnX [] σ ρ b) : anch H σ ρ b = none := by
  unfold anch
  exact @if_pos _ (Classical.propDecidable _) h _ _ _
theorem anch_no {b : Addr} (h : ¬ OwnX [] σ ρ b) : anch H σ ρ b = H b := by
  unfold anch
  exact @if_neg _ (Classical.propDecidable _) h _ _ _
theorem EnvRep.anch_same (E : EnvRep K F H0 H σ ρ) : Same H0 (anch H σ ρ) := fun b o e => by
  by_cases h : OwnX [] σ ρ b
  · obtain ⟨i, p, _, e1, e2⟩ := h
    obtain ⟨a, e3, _, e4, _⟩ := E.ow i p e1
    rw [e2] at e3
    cases e3
    rw [e4] at e; cases e
  · rw [anch_no h]; exact E.same _ _ e
theorem EnvRep.anchor (E : EnvRep K F H0 H σ ρ) : EnvRep K F (anch H σ ρ) H σ ρ where
  len := E.len
  val := E.val
  ow := fun i p e => let ⟨a, e2, e4, _, r⟩ := E.ow i p e; ⟨a, e2, e4, anch_own ⟨i, p, by simp, e, e2⟩, r⟩
  inj := E.inj
  same := fun b o e => by
    by_cases h : OwnX [] σ ρ b
    · rw [anch_own h] at e; cases e
    · rw [anch_no h] at e; exact e
  ft := E.ft
  bs := E.bs.trans E.anch_same
theorem EnvRep.base {H1 : Hp} (E : EnvRep K F H1 H σ ρ) (s : Same H0 H1) (b : Same K.B H0) : EnvRep K F H0 H σ ρ where
  len := E.len
  val := E.val
  ow := fun i p e => let ⟨a, e2, e4, e5, r⟩ := E.ow i p e; ⟨a, e2, e4, s.free e5, r⟩
  inj := E.inj
  same := s.trans E.same
  ft := E.ft
  bs := b
theorem RepR.base {G : Addr → Prop} {H1 : Hp} {fr : Bool} {p : PyData} {v : V} (r : RepR K G H1 H fr p v) (s : Same H0 H1) : RepR K G H0 H fr p v := r.sub (fun _ z => z) s
end
section
variable {T : Tb} {fr : Bool} {x : Str} {pos p2 p apos : Pos} {a b c e tg iter : Expr} {es : List Expr} {ia ib ic ie : E} {is : List E} {st : Stmt} {sts sts2 : List Stmt} {s : S} {ss ss2 : List S} {itg : Tg}
theorem ss_while (hc : ST T c ic) (hb : SSs T fr sts ss) : SS T fr (.While c sts [] pos) (.whl ic ss) := fun Y W Φ w X ok => by
  refine PS.imp (ps_while ok.own (hc Y W Φ X ok) (hb Y W Φ w X ok)) fun D σ H ⟨ρ, F, H0, er, h⟩ => ?_
  unfold evS at h
  refine ⟨fun m σ H => ∃ ρ, EnvRep (Y.kb X.K) F H0 H σ ρ ∧ RP W (whileGo (fun ρ => (evE Φ ic ρ).bind boolV) (evSs Φ w ss) m ρ) (FlP (Y.kb X.K) F H0 fr D), ⟨w, ρ, er, h⟩, ?_⟩
  rintro m σ H ⟨ρ, er, h⟩
  cases m with
  | zero => exact False.elim h
  | succ m =>
    unfold whileGo at h
    refine ⟨ρ, F, H0, er, (RP.bind h).mono fun k hk H1 s1 => ?_⟩
    cases k with
    | false => exact hk σ H1 (er.grow s1)
    | true =>
      refine ⟨fun σ' H' => ∃ ρ', EnvRep (Y.kb X.K) F H0 H' σ' ρ' ∧ RP W (whileGo (fun ρ => (evE Φ ic ρ).bind boolV) (evSs Φ w ss) m ρ') (FlP (Y.kb X.K) F H0 fr D), fun σ' H' q => ⟨m, Nat.lt_succ_self _, q⟩, ?_⟩
      refine ⟨ρ, F, H0, er.grow s1, (RP.bind hk).mono fun fl hfl => ?_⟩
      cases fl with
      | nx ρ2 => exact fun σ' H' e' => ⟨ρ2, e', hfl⟩
      | ct ρ2 => exact fun σ' H' e' => ⟨ρ2, e', hfl⟩
      | bk ρ2 => exact hfl
      | rt q => exact hfl
theorem ss_for {sr : Src} (hcm : T.cm = true) (hi : SI T tg iter sr is) (hg : SG T tg itg) (hb : SSs T fr sts ss) : SS T fr (.For tg iter sts [] pos) (.loop itg sr is ss) := fun Y W Φ w X ok => by
  refine PS.imp (ps_for ok.own (ok.calm hcm) (hi.2 Y W Φ X ok) (hg Y W Φ X ok) (hb Y W Φ w X ok) (plainE_fold hi.1 _)) fun D σ H ⟨ρ, F, H0, er, h⟩ => ?_
  unfold evS at h
  rw [← bind_assoc] at h
  refine ⟨ρ, F, H0, er, (RP.bind h).mono fun items hit J H1 s1 it => ?_⟩
  have er1 := (er.grow s1).share (lks is)
  generalize hρ1 : share (lks is) ρ = ρ1 at *
  have sub1 : ∀ b, FX F [] σ ρ1 b → FX F (lks is) σ ρ b := fun b z => by
    subst hρ1
    exact share_own _ _ z
  have sA := er1.anch_same
  have erA := er1.anchor
  -- the heap of the loop's start stays, but for what was owned
  have exA : ∀ {H2 : Hp}, Same (anch H1 σ ρ1) H2 → Ext (FX F (lks is) σ ρ) H1 H2 := fun {H2} s b o e n => by
    refine s b o ?_
    rw [anch_no fun z => n (sub1 b (.inr z))]
    exact e
  refine ⟨fun i m σ2 H2 => m = items.length - i ∧ i ≤ items.length ∧ ∃ ρ2, EnvRep (Y.kb X.K) F (anch H1 σ ρ1) H2 σ2 ρ2 ∧ RP W (forGo (evSs Φ w ss) itg (items.drop i) ρ2) (FlP (Y.kb X.K) F H0 fr D), ⟨_, rfl, Nat.zero_le _, ρ1, erA, hit⟩, ?_⟩
  rintro i m σ2 H2 ⟨rfl, hle, ρ2, e2, hgo⟩
  have Zn : ∀ b, (H1 b = none ∧ OwnX [] σ2 ρ2 b) → H1 b = none := fun b z => z.1
  obtain ⟨go, stop⟩ := it (fun b => H1 b = none ∧ OwnX [] σ2 ρ2 b) Zn i H2 (exA e2.same)
  by_cases hlt : i < items.length
  · obtain ⟨g1, g2⟩ := go items[i] (List.getElem?_eq_getElem hlt)
    refine .inr ⟨g1, fun σ' H' => ∃ ρ', EnvRep (Y.kb X.K) F (anch H1 σ ρ1) H' σ' ρ' ∧ RP W (forGo (evSs Φ w ss) itg (items.drop (i + 1)) ρ') (FlP (Y.kb X.K) F H0 fr D), fun σ' H' q => ⟨items.length - (i + 1), by omega, rfl, hlt, q⟩, fun x H3 y => ?_⟩
    obtain ⟨s3, rx⟩ := g2 x H3 y
    have e3 := e2.grow s3
    have rx2 : Rep X.K (FX F [] σ2 ρ2) H3 items[i] x := by
      refine Rep.sub (fun b z => ?_) _ _ rx
      rcases z with z | z
      · exact .inl (.inl z)
      · obtain ⟨j, q, hj, f1, f2⟩ := z
        obtain ⟨a, f3, _, f4, _⟩ := e2.ow j q f1
        rw [f2] at f3
        cases f3
        by_cases ho : OwnX [] σ ρ1 b
        · exact .inl (sub1 b (.inr ho))
        · rw [anch_no ho] at f4
          exact .inr ⟨f4, j, q, hj, f1, f2⟩
    rw [List.drop_eq_getElem_cons hlt] at hgo
    unfold forGo at hgo
    refine g_ok e3 rx2 (RP.bind hgo) fun σ4 ρ4 e4 hgo4 kp => ?_
    refine ⟨ρ4, F, anch H1 σ ρ1, e4, (RP.bind hgo4).mono fun fl hfl => ?_⟩
    cases fl with
    | nx ρ5 => exact fun σ' H' e' => ⟨ρ5, e', hfl⟩
    | ct ρ5 => exact fun σ' H' e' => ⟨ρ5, e', hfl⟩
    | bk ρ5 => exact fun σ' H' e' => hfl σ' H' (e'.base sA er.bs)
    | rt q => exact fun v H' s' r => hfl v H' (sA.trans s') (r.base sA)
  · have e : i = items.length := by omega
    subst e
    rw [List.drop_length] at hgo
    exact .inl ⟨stop (Nat.le_refl _), hgo σ2 H2 (e2.base sA er.bs)⟩
end
end L2.Pu
namespace L2.Pu
open PySem PySem.Spec PyProof.Rows
/-! ### a caught exception is held as a value -/
section
variable {X : Cx} {pins : List (Addr × Obj)} {σ : L2.St} {H : Hp} {sI s s' : Shared} {B : Heap} {a : Addr} {cls : Value} {oe : Obj} {vs : Array Value}
theorem HOk.held {P : Program} {w : World} {h : Heap} (x : HOk P w H h) (hn : H a = none) (e : h.get? a = some oe) (z : L2N.Zn cls none oe) (d : oe.data = .fields vs) : HOk P w (upd H a (ExH cls a)) h := fun b u q => by
  by_cases hb : b = a
  · subst hb
    rw [upd_same] at q
    cases q
    exact ⟨⟨oe, vs, e, z, d⟩, ⟨oe, e⟩, fun _ _ ⟨o, v, q, r⟩ k => ⟨o, v, k o q, r⟩⟩
  · rw [upd_ne hb] at q
    exact (x b u q).stay (fun c v _ q => q) (fun c q => by rw [upd_ne (ne_of_none q hn)]; exact q) fun c xs q => by rw [upd_ne (ne_of_none q hn)]; exact q
theorem Inv.landedX (I : Inv X pins σ H sI) (nb : ∀ b o, sI.heap.get? b = some o → b ∉ frs X.stack → B.get? b = some o) (st : B.StaysIn s'.heap) (up : sI.heap.UpToSlots s'.heap) (os : s'.os = sI.os) (ag : AllBare s'.gens)
    (na : H a = none) (ha : sI.heap.get? a = none) (e : s'.heap.get? a = some oe) (z : L2N.Zn cls none oe) (d : oe.data = .fields vs) : Inv X pins σ (upd H a (ExH cls a)) s' := by
  have nf : ∀ b ∈ frs X.stack, ∀ o, sI.heap.get? b = some o → ∃ sl, s'.heap.get? b = some { o with slots := sl } := fun b hb o e => by
    obtain ⟨_, o', e', hd⟩ := I.stack.mem hb
    rw [e] at e'; cases e'
    exact up b o e hd
  have ne : ∀ b o, sI.heap.get? b = some o → b ≠ a := fun b o e z => by rw [z, ha] at e; cases e
  have J := I.call (ch := []) (h' := s'.heap) (g' := s'.gens) (t' := s'.toks) (d' := s'.drawn) (H' := upd H a (ExH cls a))
    ⟨fun b o e _ hb _ => st b o (nb b o e hb), fun b o e _ hb _ => nf b hb o e, fun b o e n _ => by rw [upd_ne (ne b o e)]; exact n, fun b o e _ => by
      by_cases hb : b ∈ frs X.stack
      · obtain ⟨sl, q⟩ := nf b hb o e
        exact ⟨_, q⟩
      · exact ⟨o, st b o (nb b o e hb)⟩, fun b xs e => by rw [upd_ne (ne_of_none e na)]; exact e, fun b o xs e => by rw [upd_ne (ne_of_none e na)]; exact e, fun b ps e => ⟨#[], by rw [upd_ne (ne_of_none e na), e]; simp⟩⟩
    (HOk.held ((I.inGround nb).kept st) na e z d) ag (fun _ z => nomatch z)
  obtain ⟨a1, a2, a3, a4, a5⟩ := s'
  have e5 : a5 = sI.os := os
  subst e5
  exact J
theorem Inv.suiteX (I : Inv X pins σ H s) : Inv (X.suite a (X.pn ++ pins)) [] σ H s :=
  ⟨I.ok.suite _ _, I.os, I.bare, I.base, I.loc, I.cell, I.free, I.freeC, fun p hp => I.pin p (by rw [List.append_nil] at hp; exact hp), I.hok, I.len⟩
theorem Inv.unsuiteX {pn' : List (Addr × Obj)} (I : Inv (X.suite a (X.pn ++ pins)) pn' σ H s) (ok : X.Ok) : Inv X pins σ H s :=
  ⟨ok, I.os, I.bare, I.base, I.loc, I.cell, I.free, I.freeC, fun p hp => I.pin p (List.mem_append_left _ hp), I.hok, I.len⟩
end
/-- what the clause 'except x as n' wishes of an exception of the body: slot i is n's; the exception is held -/
def wAsX (K : PySem.W.Frag) (c : Value) (i : Nat) (ts : Addr → TS) (Wout : WX) (D : Ends) : WX := fun cls d σ H =>
  d = none ∧ ∃ b, PySem.W.exmOne K cls c = some b ∧ (b = true → ∀ a, H a = none → ts a { nx := fun σ' H' => D.nx (σ'.set i none) H', rt := D.rt, bk := fun σ' H' => D.bk (σ'.set i none) H', ct := fun σ' H' => D.ct (σ'.set i none) H' } (σ.set i (some (.ref a))) (upd H a (ExH cls a))) ∧
    (b = false → Wout cls d σ H)
section
variable {X : Cx} {x n : Str} {c : Value} {i : Nat} {body suite : List Stmt} {b₀ : Stmt} {np pos pos' : Pos} {tb : WX → TS} {ts : Addr → TS} {Wout : WX}
theorem ps_tryX (hs : X.stack = X.env :: X.outer) (hf : X.env.frame = some X.env.locals) (hN : X.N.Nodup) (hi : X.N[i]? = some n) (hln : X.env.kindOf n = some .local) (hc : Names X x c) (tk : L2N.Takes X Wout)
    (hb : ∀ (W : WX) (pn : List (Addr × Obj)) (xe : Value → Shared → Prop), L2N.Takes (X.tr pn xe) W → PassesOwn (model X.prog X.w) X.A X.env xe → PSs (X.tr pn xe) body (tb W))
    (hsu : ∀ (a : Addr) (pn : List (Addr × Obj)), PSs (X.suite a pn) (b₀ :: suite) (ts a)) :
    PS X (.Try body [.ExceptHandler (some (.Name x np)) (some n) (b₀ :: suite) pos'] [] [] pos) (fun D σ H => tb (wAsX X.K c i ts Wout D) D σ H) := by
  refine ⟨fun pins s σ H D I h => ?_⟩
  have ok := I.ok
  have hfr : X.A.frames = some (X.env :: X.outer) := by rw [ok.frames, hs]
  have hloc : Loc X.env.scope n := .inl hln
  refine wpAny_Try_except ?_
  refine wpAny_mono ((hb (wAsX X.K c i ts Wout D) (X.pn ++ pins) (fun e s₁ => wpAny (model X.prog X.w) X.A (noteFrame e X.env) (fun _ s₂ => wpAny (model X.prog X.w) X.A (setFlight e none) (fun _ s₃ =>
    wpAny (model X.prog X.w) X.A (handleBy e X.env [.ExceptHandler (some (.Name x np)) (some n) (b₀ :: suite) pos']) (SP X pins D) X.xe s₃) X.xe s₂) X.xe s₁) (fun u s' xx => ?_) PassesOwn.looking).run [] s σ H D (I.toTry _) h) (fun f s1 hsp => ?_) (fun e s1 he => he)
  · obtain ⟨a, B, sI, pins', σ', H', cls, d, rfl, J', nb, up, sky, na, os, ag, hd0, b, hb1, hyes, hno⟩ := xx
    subst hd0
    have J : Inv X pins σ' H' sI := J'.ofTry ok
    have sky' : Sky B (X.env :: X.outer) a (L2N.Zn cls none) X.env.locals s'.heap := by rw [← hs]; exact sky
    show wpAny (model X.prog X.w) X.A (noteFrame (.ref a) X.env) _ _ _
    refine L2N.Sky.land L2N.Zn.steady hfr hf sky' fun h3 fl3 up3 => ?_
    have J3 : Inv X pins σ' H' { s' with heap := h3 } := J.landed nb fl3.1 (up.trans up3) os ag
    obtain ⟨oe3, vs3, he3, hz3, hd3⟩ := fl3.there
    have nfr : a ∉ frs (X.env :: X.outer) := fun hm => by
      obtain ⟨_, o', e', hnf⟩ := fl3.2.2.1.mem hm
      rw [he3] at e'; cases e'
      exact hnf _ hd3
    have hIa : sI.heap.get? a = none := by
      cases q : sI.heap.get? a with
      | none => rfl
      | some o =>
        have z := nb a o q (by rw [hs]; exact nfr)
        rw [fl3.2.1] at z
        cases z
    refine wpAny_handleBy_cons (codeAny_handlers_test ?_) (by intro q; cases q)
    have LT : PySem.W.Looks (model X.prog X.w) h3 (typeOf (.ref a)) cls := fun A Q E s k q => wpAny_typeOf_ref (k _ _ he3) (by rw [hz3.1]; exact q)
    have LM := PySem.W.exm_one (M := model X.prog X.w) (J3.kIn) LT hb1
    have test : ∀ {Q : Value → Shared → Prop} {E : Value → Shared → Prop}, Q c { s' with heap := h3 } → wpAny (model X.prog X.w) (X.A.mark (some (.ref a))) (eval (.Name x np) X.env) Q E { s' with heap := h3 } := fun {Q E} q => by
      obtain ⟨hg, hdbg, hm | ⟨hm, hv, hnn⟩⟩ := hc
      · exact ld_glob (X := X.suite a (X.pn ++ pins)) (Inv.suiteX J3) hg hm q hdbg
      · exact ld_blt (X := X.suite a (X.pn ++ pins)) (Inv.suiteX J3) hg hm hv q hnn hdbg
    refine test (LM.here ?_)
    cases b with
    | true =>
      refine codeAny_handlers_suite_as ?_
      refine HandSPX.lands_againZ fl3 fun h4 fl4 up4 => ?_
      obtain ⟨oe4, vs4, he4, hz4, hd4⟩ := fl4.there
      have J4 : Inv X pins σ' (upd H' a (ExH cls a)) { s' with heap := h4 } := Inv.landedX J nb fl4.1 ((up.trans up3).trans up4) os ag na hIa he4 hz4 hd4
      have S4 := Inv.suiteX (a := a) J4
      refine store_ok (X := X.suite a (X.pn ++ pins)) (v := .ref a) S4 hN hi hloc rfl (fun s5 S5 => ?_) (.inr hln)
      refine wpAny_mono ((hsu a (X.pn ++ pins)).run [] s5 _ _ _ S5 (hyes rfl a na)) (fun f s6 hsp => ?_) (fun _ _ z => False.elim z)
      have end_ : ∀ {σ6 : L2.St} {H6 : Hp} {Q : Shared → Prop}, Inv (X.suite a (X.pn ++ pins)) [] σ6 H6 s6 → (∀ s7, Inv X pins (σ6.set i none) H6 s7 → Q s7) →
          wpAny (model X.prog X.w) X.A (do bindName X.env n .none; unbindBehindTheSuite X.env n pos') (fun _ s7 => Q s7) X.xe s6 := fun {σ6 H6 Q} S6 hq => gone_ok (Inv.unsuiteX S6 ok) hN hi hln hq
      cases f with
      | next =>
        obtain ⟨σ6, H6, S6, q6⟩ := hsp
        exact end_ S6 fun s7 J7 => ⟨_, _, J7, q6⟩
      | brk =>
        obtain ⟨σ6, H6, S6, q6⟩ := hsp
        exact end_ S6 fun s7 J7 => ⟨_, _, J7, q6⟩
      | cont =>
        obtain ⟨σ6, H6, S6, q6⟩ := hsp
        exact end_ S6 fun s7 J7 => ⟨_, _, J7, q6⟩
      | ret u =>
        obtain ⟨v6, σ6, H6, S6, r6, q6⟩ := hsp
        exact end_ S6 fun s7 J7 => ⟨_, _, _, J7, r6, q6⟩
    | false =>
      show wpAny _ X.A (handleBy (.ref a) X.env []) _ _ _
      refine wpAny_handleBy_nil ?_
      obtain ⟨k1, k2, k3, oe, vs, T, oT, ts', he, hz, hd, h1, hr⟩ := id fl3
      unfold PySem.passOn
      refine wpAny_bind (wpAny_field he hd h1 ?_)
      rw [if_neg (show ¬ ((Value.ref T == Value.none) = true) from by simp)]
      have fin : wpAny (model X.prog X.w) X.A (setFlight (.ref a) X.env.frame) (fun _ s4 => wpAny (model X.prog X.w) X.A (throw (.ref a) : Sem Flow) (SP X pins D) X.xe s4) X.xe { s' with heap := h3 } := by
        rw [hf]
        refine HandSPX.setFlight_upZ fl3 fun h4 hh4 up4 => wpAny_throw (tk _ _ ?_)
        exact ⟨a, B, sI, pins, σ', H', cls, none, rfl, J, nb, (up.trans up3).trans up4, .inr (.inr (by rw [hs]; exact hh4)), na, os, ag, hno rfl⟩
      first
        | exact wpAny_bind (wpAny_pure (wpAny_bind fin))
        | exact wpAny_bind fin
  · cases f with
    | next =>
      obtain ⟨σ', H', J', q⟩ := hsp
      exact wpAny_execs_nil ⟨σ', H', J'.ofTry ok, q⟩
    | brk =>
      obtain ⟨σ', H', J', q⟩ := hsp
      exact ⟨σ', H', J'.ofTry ok, q⟩
    | cont =>
      obtain ⟨σ', H', J', q⟩ := hsp
      exact ⟨σ', H', J'.ofTry ok, q⟩
    | ret u =>
      obtain ⟨v, σ', H', J', r, q⟩ := hsp
      exact ⟨v, σ', H', J'.ofTry ok, r, q⟩
end
/-! ### raise -/
section
variable {T : Tb} {fr : Bool} {x m : Str} {pos p2 p p3 : Pos} {j : Nat}
theorem ss_raise (hcm : T.cm = true) (htp : T.tp = true) (hx : x ∈ T.exs) (hg : gloB T.scope x = true) (hn : nameB x = true) : SS T fr (.Raise (some (.Call (.Name x p) [.Constant (.str m) j p2] [] p3)) none pos) (.rs x) := fun Y W Φ w X ok => by
  obtain ⟨n1, _, _⟩ := nameB_ok hn
  obtain ⟨gC, e⟩ := ok.exs x hx
  have F := exOk_ok e
  obtain ⟨q1, q2, q3, q4⟩ := He.exc_ok F.fa
  refine PS.imp (L2N.ps_raise (W := fun cls d _ H => Same Y.B H ∧ EKc X.K W cls d H) (ok.calm hcm) (ok.tk htp) (L2N.pmk_own PySem.F.excBase_ValueError q1 gC q2 (raises_own q3 q4) (gloB_ok ok hg) n1)) fun D σ H ⟨ρ, F, H0, er, h⟩ => ?_
  unfold evS at h
  exact ⟨er.bs.trans er.same, x, [], h, rfl, rfl, rfl, e⟩
end
/-! ### isinstance of an exception -/
/-- isinstance(e, c), e an exception that is held -/
def rIsX (K : PySem.W.Frag) : List V → Hp → VK → Prop := fun xs H Q => ∃ (a D : Addr) (c : V) (u : Value) (b : Bool), xs = [.ref a, c] ∧ H a = some (ExH (.ref D) a) ∧ ExcC K D ∧ ClsV c u ∧ PySem.W.kitOne K (.ref D) u = some b ∧ Q (.bl b) H
theorem call_isX {X : Cx} : CallR X (.builtin "isinstance") (rIsX X.K) := by
  intro pins s σ H xs us Q I r h
  obtain ⟨a, D, c, u, b, rfl, ha, C, k, e, q⟩ := h
  obtain ⟨u1, u2, rfl, r1, r2⟩ := vals2 r
  have e2 := k.eq r2
  subst e2
  cases (show u1 = Value.ref a from r1)
  obtain ⟨⟨oe, vs, ho, ⟨hz1, hz2, _⟩, hd⟩, _, _⟩ := I.hok a _ ha
  have J : PySem.W.InstAt s.heap a oe D none := by
    obtain ⟨oc, od, oda, osl⟩ := oe
    have h1 := hz1
    have h2 := hz2
    dsimp only at h1 h2 hd
    subst h1 h2 hd
    exact ⟨ho, rfl, rfl, trivial⟩
  exact PySem.W.kia_one (PySem.W.handS_kitx_exc C.hg C.hk C.hs C.hd C.ha C.hn C.ht C.hm) I.kIn J e (fun z => nomatch z) fun tk => ⟨.bl b, H, I.tok tk, rfl, q⟩
section
variable {T : Tb} {x c : Str} {a : Expr} {ia : E} {pos p2 p : Pos}
theorem isx_read {Y : Xsys} {W : XW} {Φ : Nat → List PyData → R PyData} {X : Cx} {cv : V} {cu : Value} (hc : ClsV cv cu) (hk : ∀ d b, exOk X.K d = true → subX d c = some b → PySem.W.kitOne X.K (.ref (He.ga X.K d)) cu = some b) {σ : L2.St} {H : Hp} {Q : VK}
    (h : rd (Y.kb X.K) W (evE Φ (.isx c ia)) [] [] false σ H Q) : tCB (rIsX X.K) (tCons (rd (Y.kb X.K) W (evE Φ ia) (lk ia) (lkI ia) (fresh ia)) (tCons (tC cv) tNil)) σ H Q := by
  obtain ⟨ρ, F, H0, er, h⟩ := h
  unfold evE at h
  refine ⟨ρ, F, H0, er, (RP.bind h).mono fun z hz v H1 s1 r1 i1 => ?_⟩
  cases z with
  | dict ks =>
    have rz := r1.1
    unfold Rep at rz
    obtain ⟨ad, rfl, rz⟩ := rz
    rcases rz with ⟨d, as, rfl, e0, ea, ex⟩ | ⟨o, ok, _⟩
    · skip
      have hz : RP W (match subX d c with | some b => okB b | none => .bad) (fun p => ∀ v H', Same H H' → RepR X.K (FX F [] σ ρ) H H' false p v → RepI X.K (FX F [] σ ρ) H' p v → Q v H') := hz
      cases e : subX d c with
      | none => rw [e] at hz; exact False.elim hz
      | some b =>
        rw [e] at hz
        exact ⟨ad, _, cv, cu, b, rfl, ea, (exOk_ok ex).ec, hc, hk d b ex e, hz _ H1 s1 (repR_of rep_bool rfl) (.of rep_bool)⟩
    · cases ks with
      | nil => exact False.elim hz
      | cons kv r =>
        obtain ⟨k, w⟩ := kv
        cases k with
        | int _ => cases r <;> exact False.elim hz
        | none => cases r <;> exact False.elim hz
        | bool _ => cases r <;> exact False.elim hz
        | _ => cases ok
  | _ => exact False.elim hz
theorem se_isx (hg : gloB T.scope "isinstance" = true) (hb : ("isinstance" : Str) ∈ T.blts) (hg2 : gloB T.scope c = true) (hn : nameB c = true) (hb2 : c ∈ T.cls) (ha : SE T a ia) :
    SE T (.Call (.Name "isinstance" p) [a, .Name c p2] [] pos) (.isx c ia) := by
  refine ⟨rfl, fun Y W Φ X ok => ?_⟩
  obtain ⟨n1, _, n3⟩ := nameB_ok hn
  obtain ⟨hm, hcl⟩ := ok.cls c hb2
  have args : PA X [a, .Name c p2] (tCons (rd (Y.kb X.K) W (evE Φ ia) (lk ia) (lkI ia) (fresh ia)) (tCons (tC (.ref (He.ga X.K c))) tNil)) :=
    pa_cons (ha.2 Y W Φ X ok) (pa_cons (pe_glob (v := .ref (He.ga X.K c)) (gloB_ok ok hg2) hm rfl n1) pa_nil) (plainE_star ha.1 _ _)
  exact PE.imp (pe_callB call_isX (gloB_ok ok hg) (ok.blt _ hb) (by decide +kernel) args (by decide) (by decide) (plainE_star ha.1 _ _) rfl) fun σ H Q h => isx_read (.own _) (fun d b ex e => by rw [((exOk_ok ex).al c hcl).1]; exact e) h
theorem se_isxV (hg : gloB T.scope "isinstance" = true) (hb : ("isinstance" : Str) ∈ T.blts) (hg2 : gloB T.scope "ValueError" = true) (hb2 : ("ValueError" : Str) ∈ T.blts) (ha : SE T a ia) :
    SE T (.Call (.Name "isinstance" p) [a, .Name "ValueError" p2] [] pos) (.isx "ValueError" ia) := by
  refine ⟨rfl, fun Y W Φ X ok => ?_⟩
  have args : PA X [a, .Name "ValueError" p2] (tCons (rd (Y.kb X.K) W (evE Φ ia) (lk ia) (lkI ia) (fresh ia)) (tCons (tC (.ty "ValueError")) tNil)) :=
    pa_cons (ha.2 Y W Φ X ok) (pa_cons (pe_bltn (v := .ty "ValueError") (gloB_ok ok hg2) (ok.blt _ hb2) (by decide +kernel) rfl (by decide) (by decide)) pa_nil) (plainE_star ha.1 _ _)
  refine PE.imp (pe_callB call_isX (gloB_ok ok hg) (ok.blt _ hb) (by decide +kernel) args (by decide) (by decide) (plainE_star ha.1 _ _) rfl) fun σ H Q h => isx_read (.ty _) (fun d b ex e => ?_) h
  rw [(exOk_ok ex).ve]
  unfold subX at e
  split at e
  · rw [← Option.some.inj e]; simp
  · cases e
end
end L2.Pu
namespace L2.Pu
open PySem PySem.Spec PyProof.Rows
/-! ### try -/
theorem RP.monoW {α : Type} {W W' : XW} {r : R α} {P : α → Prop} (h : RP W r P) (f : ∀ c as, W c as → W' c as) : RP W' r P := by
  cases r with
  | ok a => exact h
  | ex c as => exact f c as h
  | bad => exact h
theorem EnvRep.unset {K : KB} {F : Addr → Prop} {H0 H : Hp} {σ : L2.St} {ρ : PEnv} (E : EnvRep K F H0 H σ ρ) (i : Nat) : EnvRep K F H0 H (σ.set i none) (ρ.set i none) := by
  have sub : ∀ a, FX F [] (σ.set i none) (ρ.set i none) a → FX F [] σ ρ a := fun a z => by
    rcases z with z | ⟨j, q, hj, e1, e2⟩
    · exact .inl z
    · rcases set_get e1 with ⟨_, e⟩ | ⟨ne, e1⟩
      · cases e
      · rw [set_other ne] at e2
        exact .inr ⟨j, q, hj, e1, e2⟩
  refine ⟨by rw [List.length_set, List.length_set]; exact E.len, fun j q e => ?_, fun j q e => ?_, fun j k q q' a e1 e2 e3 e4 => ?_, E.same, E.ft, E.bs⟩
  · rcases set_get e with ⟨ne, e⟩ | ⟨ne, e⟩
    · cases e
    · obtain ⟨w, e1, r1⟩ := E.val j q e
      exact ⟨w, by rw [set_other ne]; exact e1, Rep.sub sub _ _ r1⟩
  · rcases set_get e with ⟨ne, e⟩ | ⟨ne, e⟩
    · cases e
    · obtain ⟨a, e2, e4, e5, r1⟩ := E.ow j q e
      exact ⟨a, by rw [set_other ne]; exact e2, e4, e5, r1.sub sub⟩
  · rcases set_get e1 with ⟨_, e⟩ | ⟨ne, e1⟩
    · cases e
    · rcases set_get e2 with ⟨_, e⟩ | ⟨ne2, e2⟩
      · cases e
      · rw [set_other ne] at e3
        rw [set_other ne2] at e4
        exact E.inj j k q q' a e1 e2 e3 e4
/-- an exception is wished for at the slots that stand -/
def RX (K : KB) (Wx : WX) (σ : L2.St) (H : Hp) : XW := fun c as => ∀ cls d H', Same H H' → XRel K c as cls d → Wx cls d σ H'
def rdB (K : KB) (fr : Bool) (Wx : WX) (ev : PEnv → R Fl) : TS := fun D σ H => ∃ ρ F H0, EnvRep K F H0 H σ ρ ∧ RP (RX K Wx σ H) (ev ρ) (FlP K F H0 fr D)
def rdC (K : KB) (Wx : WX) (ev : PEnv → R PyData) (lk li : List Nat) (fr : Bool) : TE := fun σ H Q => ∃ ρ F H0, EnvRep K F H0 H σ ρ ∧
  RP (RX K Wx σ H) (ev ρ) fun p => ∀ v H', Same H H' → RepR K (FX F lk σ ρ) H H' fr p v → RepI K (FX F li σ ρ) H' p v → Q v H'
theorem RX.grow {K : KB} {Wx : WX} {σ : L2.St} {H H' : Hp} (s : Same H H') : ∀ c as, RX K Wx σ H c as → RX K Wx σ H' c as := fun c as h cls d H2 s2 r => h cls d H2 (s.trans s2) r
def STB (T : Tb) (fr : Bool) (sts : List Stmt) (b : TB) : Prop := ∀ (Y : Xsys) (W : XW) (Φ : Nat → List PyData → R PyData) (X : Cx), CxOk Y W T Φ X → ∀ (Wx : WX) (pn : List (Addr × Obj)) (xe : Value → Shared → Prop), L2N.Takes (X.tr pn xe) Wx → PassesOwn (model X.prog X.w) X.A X.env xe →
  PSs (X.tr pn xe) sts (rdB (Y.kb X.K) fr Wx (evTB Φ b))
theorem cx_tr {Y : Xsys} {W : XW} {T : Tb} {Φ : Nat → List PyData → R PyData} {X : Cx} (ok : CxOk Y W T Φ X) {pn : List (Addr × Obj)} {xe : Value → Shared → Prop} (own : PassesOwn (model X.prog X.w) X.A X.env xe) : CxOk Y (fun _ _ => False) T Φ (X.tr pn xe) where
  N := ok.N
  nd := ok.nd
  sc := ok.sc
  fnb := ok.fnb
  calm := ok.calm
  room := ok.room
  roomW := ok.roomW
  wv := ok.wv
  units := ok.units
  unitsM := ok.unitsM
  pass := fun _ _ _ _ _ _ _ _ h => (pass_no h).elim
  tk := fun _ => tk_no
  stk := ok.stk
  own := own
  fns := ok.fns
  fnr := ok.fnr
  fnv := ok.fnv
  hot := ok.hot
  fnh := ok.fnh
  blt := ok.blt
  glb := ok.glb
  cls := ok.cls
  exs := ok.exs
  nk := ok.nk
def Tb.suite (T : Tb) : Tb := { T with cm := false, tp := false, ht := false }
theorem cx_suite {Y : Xsys} {W : XW} {T : Tb} {Φ : Nat → List PyData → R PyData} {X : Cx} (ok : CxOk Y W T Φ X) (a : Addr) (pn : List (Addr × Obj)) : CxOk Y (fun _ _ => False) T.suite Φ (X.suite a pn) where
  N := ok.N
  nd := ok.nd
  sc := ok.sc
  fnb := ok.fnb
  calm := fun z => Bool.noConfusion (show false = true from z)
  room := fun z => Bool.noConfusion (show false = true from z)
  roomW := fun z => Bool.noConfusion (show false = true from z)
  wv := ok.wv
  units := ok.units
  unitsM := ok.unitsM
  pass := fun _ _ _ _ _ _ _ _ h => (pass_no h).elim
  tk := fun z => Bool.noConfusion (show false = true from z)
  stk := fun z => Bool.noConfusion (show false = true from z)
  own := PassesOwn.never
  fns := ok.fns
  fnr := ok.fnr
  fnv := ok.fnv
  hot := fun z => Bool.noConfusion (show false = true from z)
  fnh := ok.fnh
  blt := ok.blt
  glb := ok.glb
  cls := ok.cls
  exs := ok.exs
  nk := ok.nk
theorem calm_okX {α : Type} {W : XW} {r : R α} {P : α → Prop} (h : RP W r.calm P) : ∃ a, r = .ok a ∧ P a := by
  cases r with
  | ok a => exact ⟨a, rfl, h⟩
  | ex c as => exact False.elim h
  | bad => exact False.elim h
section
variable {T : Tb} {fr : Bool} {x y cn : Str} {pos p2 p p3 pos' np : Pos} {e : Expr} {es : List Expr} {ie : E} {is : List E}
theorem pe_callT {n j : Nat} {I : FnI} (hcm : T.cm = true) (hg : gloB T.scope x = true) (hn : nameB x = true) (hf : T.fns.lookup x = some (n, I)) (hs : SA T (e :: es) (ie :: is)) (hj : j ≤ I.ds.length) (hl : (ie :: is).length + (I.ds.drop j).length = I.ps.length)
    {Y : Xsys} {W : XW} {Φ : Nat → List PyData → R PyData} {X : Cx} (ok : CxOk Y W T Φ X) {Wx : WX} {pn : List (Addr × Obj)} {xe : Value → Shared → Prop} (tk : L2N.Takes (X.tr pn xe) Wx) (own : PassesOwn (model X.prog X.w) X.A X.env xe) :
    PE (X.tr pn xe) (.Call (.Name x p) (e :: es) [] pos) (rdC (Y.kb X.K) Wx (fun ρ => (evEs Φ (ie :: is) ρ).calm.bind fun _ => evE Φ (.call n I.fr (ie :: is) (I.ds.drop j)) ρ) (lks (ie :: is)) (lks (ie :: is)) I.fr) := by
  have okF := cx_tr ok (pn := pn) own
  obtain ⟨n1, _, _⟩ := nameB_ok hn
  obtain ⟨f, fd, hm, hk, G, hb⟩ := okF.fns x n I hf
  obtain ⟨ds, dvs, hb, hd, hr⟩ := hb j hj
  have pl := hs.1
  rw [List.all_cons, Bool.and_eq_true] at pl
  refine ⟨fun pins s σ H Q J ⟨ρ, F, H0, er, h⟩ => ?_⟩
  obtain ⟨ps, eps, h⟩ := calm_okX (RP.bind h)
  unfold evE at h
  rw [eps] at h
  have h : RP (RX (Y.kb X.K) Wx σ H) (Φ n (ps ++ I.ds.drop j)) _ := h
  refine wpAny_Call_Name_kw (ld_glob J (gloB_ok okF hg) hm ?_ n1)
  have el : ps.length = (ie :: is).length := by
    have := evEs_len (W := fun _ _ => False) (P := fun _ => True) (show RP (fun _ _ => False) (evEs Φ (ie :: is) ρ) (fun _ => True) by rw [eps]; trivial)
    rw [eps] at this
    exact this.1
  refine PySem.W.callWith_K (h₀ := X.base) J.ok.mod.kin hk (thn ((hs.2 Y _ Φ (X.tr pn xe) okF).run pos pins s σ H (fun vs H1 => Same H H1 ∧ spF X.K I.fr (Φ n) I.ps.length (vs ++ dvs) H1 Q (fun cls d H' => Wx cls d σ H')) J ⟨ρ, F, H0, er, by
    rw [eps]
    refine fun vs H1 s1 r1 => ⟨s1, ?_⟩
    have rd2 := hr (FX F (lks (ie :: is)) σ ρ) H1
    refine ⟨by rw [List.length_append, r1.length, rd2.length, el]; exact hl, FX F (lks (ie :: is)) σ ρ, ps ++ I.ds.drop j, (er.grow s1).ftX _, r1.append rd2, ?_⟩
    cases eq : Φ n (ps ++ I.ds.drop j) with
    | ok z =>
      rw [eq] at h
      exact fun v H' s r => h v H' (s1.trans s) (r.sub (fun _ z => z) s1) (.of r.1)
    | ex c as =>
      rw [eq] at h
      exact fun cls d H' s r => h cls d H' (s1.trans s) r
    | bad => rw [eq] at h; exact h.elim⟩) fun us s1 ⟨vs, H1, I1, r, sm, q⟩ => ⟨I1.kIn, ?_⟩) (plainE_star pl.1 _ _) (plainEs_star _ _ pl.2)
  have r2 : Vals (vs ++ dvs) (us ++ ds) := r.append hd
  have hl2 : (us ++ ds).length = I.ps.length := by rw [← r2.length]; exact q.1
  refine wpAny_call (codeAny_mono (G.run X.A X.stack s1 H1 ⟨us, []⟩ (us ++ ds) (vs ++ dvs) Q (fun cls d H' => Wx cls d σ H') (ok.room hcm) I1.env0 (hb s1 us I1.kIn hl2) r2 q) fun r s' hq => ?_)
  cases r with
  | error e => exact tk _ _ (L2N.XE.of_call (E := fun cls d H' => Wx cls d σ H' ∧ Same H1 H') I1 (fun cls d H' h => h.1) hq)
  | ok fl =>
    cases fl with
    | ret u => exact I1.after hq
    | next => exact False.elim hq
    | brk => exact False.elim hq
    | cont => exact False.elim hq
theorem stb_asg {n j i : Nat} {I : FnI} (hcm : T.cm = true) (hg : gloB T.scope x = true) (hn : nameB x = true) (hf : T.fns.lookup x = some (n, I)) (hs : SA T (e :: es) (ie :: is)) (hj : j ≤ I.ds.length) (hl : (ie :: is).length + (I.ds.drop j).length = I.ps.length)
    (hN : T.N[i]? = some y) (hlc : locB T y = true) : STB T fr [.Assign [.Name y p3] (.Call (.Name x p) (e :: es) [] pos) pos'] (.cal (some i) n I.fr (ie :: is) (I.ds.drop j)) := fun Y W Φ X ok Wx pn xe tk own => by
  obtain ⟨h1, h2⟩ := locB_ok ok hlc
  refine pss_one (PS.imp (ps_set (X := X.tr pn xe) (by rw [ok.N]; exact ok.nd) (by rw [ok.N]; exact hN) h1 (pe_callT hcm hg hn hf hs hj hl ok tk own) (notComp_sw (by rfl) _ _ _) h2) fun D σ H ⟨ρ, F, H0, er, h⟩ => ?_)
  have h : RP (RX (Y.kb X.K) Wx σ H) ((evEs Φ (ie :: is) ρ).calm.bind fun _ => asgV Φ i (.call n I.fr (ie :: is) (I.ds.drop j)) ρ) _ := h
  unfold asgV at h
  rw [← bind_assoc] at h
  exact ⟨ρ, F, H0, er, (RP.bind h).mono fun q hq v H' s r _ => store_read (itg := .nm i) (ie := .call n I.fr (ie :: is) (I.ds.drop j)) er s r hq⟩
theorem stb_drop {n j : Nat} {I : FnI} (hcm : T.cm = true) (hg : gloB T.scope x = true) (hn : nameB x = true) (hf : T.fns.lookup x = some (n, I)) (hs : SA T (e :: es) (ie :: is)) (hj : j ≤ I.ds.length) (hl : (ie :: is).length + (I.ds.drop j).length = I.ps.length) :
    STB T fr [.Expr (.Call (.Name x p) (e :: es) [] pos) pos'] (.cal none n I.fr (ie :: is) (I.ds.drop j)) := fun Y W Φ X ok Wx pn xe tk own => by
  refine pss_one (PS.imp (ps_expr (X := X.tr pn xe) (pe_callT hcm hg hn hf hs hj hl ok tk own) (notComp_sw (by rfl) _ _ _)) fun D σ H ⟨ρ, F, H0, er, h⟩ => ?_)
  have h : RP (RX (Y.kb X.K) Wx σ H) ((evEs Φ (ie :: is) ρ).calm.bind fun _ => (evE Φ (.call n I.fr (ie :: is) (I.ds.drop j)) ρ).bind fun _ => (.ok (Fl.nx ρ) : R Fl)) (FlP (Y.kb X.K) F H0 fr D) := h
  rw [← bind_assoc] at h
  exact ⟨ρ, F, H0, er, (RP.bind h).mono fun q hq v H' s r i => hq σ H' (er.grow s)⟩
theorem stb_if {c : Expr} {ic : E} {a b : List Stmt} {ta tb : TB} (hc : ST T c ic) (ha : STB T fr a ta) (hb : STB T fr b tb) : STB T fr [.If c a b pos] (.ite ic ta tb) := fun Y W Φ X ok Wx pn xe tk own => by
  refine pss_one (PS.imp (ps_if (X := X.tr pn xe) (hc Y _ Φ _ (cx_tr ok own)) (ha Y W Φ X ok Wx pn xe tk own) (hb Y W Φ X ok Wx pn xe tk own)) fun D σ H ⟨ρ, F, H0, er, h⟩ => ?_)
  unfold evTB at h
  obtain ⟨v, ev, h⟩ := calm_okX (RP.bind h)
  cases v with
  | bool t =>
    refine ⟨ρ, F, H0, er, ?_⟩
    show RP _ ((evE Φ ic ρ).bind boolV) _
    rw [ev]
    refine fun H' s => ?_
    cases t with
    | true => exact ⟨ρ, F, H0, er.grow s, h.monoW (RX.grow s)⟩
    | false => exact ⟨ρ, F, H0, er.grow s, h.monoW (RX.grow s)⟩
  | _ => exact False.elim h
theorem ss_try {b : TB} {h : List S} {st0 : Stmt} {sts body : List Stmt} {i : Nat} (hcm : T.cm = true) (htp : T.tp = true) (hcn : cn ∈ T.cls) (hg : gloB T.scope cn = true) (hn : nameB cn = true) (hN : T.N[i]? = some y) (hloc : T.scope.names.lookup y = some .local) (hb : STB T fr body b) (hsu : SSs T.suite fr (st0 :: sts) h) :
    SS T fr (.Try body [.ExceptHandler (some (.Name cn np)) (some y) (st0 :: sts) pos'] [] [] pos) (.tryx b cn (some i) h) := fun Y W Φ w X ok => by
  obtain ⟨n1, _, _⟩ := nameB_ok hn
  obtain ⟨hm, hcl⟩ := ok.cls cn hcn
  obtain ⟨s1, s2⟩ := ok.stk htp
  refine PS.imp (ps_tryX (i := i) s1 s2 (by rw [ok.N]; exact ok.nd) (by rw [ok.N]; exact hN) (by unfold Env.kindOf; rw [ok.sc]; exact hloc) ⟨gloB_ok ok hg, n1, .inl hm⟩ (ok.tk htp)
    (tb := fun Wx => rdB (Y.kb X.K) fr Wx (evTB Φ b)) (fun Wx pn xe tk own => hb Y W Φ X ok Wx pn xe tk own)
    (ts := fun _ => rdS (Y.kb X.K) (fun _ _ => False) fr (evSs Φ w h)) (fun a pn => hsu Y _ Φ w _ (cx_suite ok a pn))) fun D σ H ⟨ρ, F, H0, er, hh⟩ => ?_
  refine ⟨ρ, F, H0, er, ?_⟩
  unfold evS at hh
  cases eb : evTB Φ b ρ with
  | ok fl => rw [eb] at hh; exact hh
  | bad => rw [eb] at hh; exact False.elim hh
  | ex c as =>
    rw [eb] at hh
    have hh : RP W (handV (subX c cn) as ((evSs Φ w h (setX (some i) c ρ)).bind fun fl => .ok (unsetF (some i) fl)) c) (FlP (Y.kb X.K) F H0 fr D) := hh
    show RX _ _ _ _ c as
    rintro cls d H' sm ⟨rfl, rfl, rfl, ex⟩
    have q := ((exOk_ok ex).al cn hcl).2
    have er' := er.grow sm
    refine ⟨rfl, ?_⟩
    cases es : subX c cn with
    | none => rw [es] at hh; exact False.elim hh
    | some t =>
      rw [es] at q hh
      refine ⟨t, q, fun et a na => ?_, fun et => ?_⟩
      · subst et
        obtain ⟨_, hh⟩ := RP.guard (show RP W (guardR ([] : List PyData).isEmpty ((evSs Φ w h (setX (some i) c ρ)).bind fun fl => .ok (unsetF (some i) fl)).calm) _ from hh)
        have er2 := er'.grow (upd_same_grow (o := ExH (.ref (He.ga X.K c)) a) na)
        have rv : Rep X.K (FX F [] σ ρ) (upd H' a (ExH (.ref (He.ga X.K c)) a)) (exV c []) (.ref a) := by
          unfold exV Rep
          exact ⟨a, rfl, .inl ⟨c, [], rfl, rfl, upd_same, ex⟩⟩
        refine ⟨ρ.set i (some (false, exV c [])), F, H0, er2.set i rv, ?_⟩
        refine (RP.bind (RP.calm (W' := fun _ _ => False) hh)).mono fun fl hfl => ?_
        cases fl with
        | nx ρ1 => exact fun σ2 H2 e2 => hfl _ _ (e2.unset i)
        | bk ρ1 => exact fun σ2 H2 e2 => hfl _ _ (e2.unset i)
        | ct ρ1 => exact fun σ2 H2 e2 => hfl _ _ (e2.unset i)
        | rt p => exact hfl
      · subst et
        exact ⟨er'.bs.trans er'.same, c, [], hh, rfl, rfl, rfl, ex⟩
end
end L2.Pu
namespace L2.Pu
open PySem PySem.Spec PyProof.Rows
/-! ### list.count, list.index, bit_length, insert, zip -/
section
variable {X : Cx}
def rCntF (K : PySem.W.Frag) : V → List V → Hp → VK → Prop := fun x xs H Q => ∃ (a : Addr) (ys : List V) (y : V), x = V.ref a ∧ xs = [y] ∧ SqL K H a ys ∧ flatV y = true ∧ ys.all flatV = true ∧ Q (.int (ys.countP fun z => eqV z y : Nat)) H
theorem countP_vals {y : V} : ∀ {ys : List V} {us : List Value}, Vals ys us → ys.all flatV = true → us.countP (eqU y) = ys.countP fun z => eqV z y
  | _, _, .nil, _ => rfl
  | z :: ys, u :: us, .cons r t, f => by
    rw [List.all_cons, Bool.and_eq_true] at f
    rw [List.countP_cons, List.countP_cons, countP_vals t f.2, eqU_of r f.1]
theorem mt_lcountF : MtR X "list.count" (rCntF X.K) := by
  intro pins s σ H x xs v us Q I rx rxs h
  obtain ⟨p, ys, y, rfl, rfl, hs, fy, fys, q⟩ := h
  cases rx
  obtain ⟨u, rfl, ru⟩ := rxs.one
  obtain ⟨its, rv, ⟨⟨cls, dd, data, sl⟩, n, ho, hc, hdn, hd⟩, hlen⟩ := I.list hs
  simp only at hc hd
  subst hc hd
  refine call_meets PySem.F.slot_list_count ⟨_, ho, rfl⟩ PySem.F.entry_list_count (PySem.F.args_list_count_2 _ _)
    (SeqAt.list_countAt p its.toArray n dd sl u (eqU y)) ⟨ho, fun u' hu' => mem_eqAt ru fy rv fys u' (by simpa using hu'), ?_⟩
  have ec : its.toArray.toList.countP (eqU y) = ys.countP fun z => eqV z y := countP_vals rv fys
  refine ⟨.int (ys.countP fun z => eqV z y : Nat), H, I.tok _, ⟨s.toks, ?_⟩, q⟩
  show Value.int ((its.toArray.toList.countP (eqU y) : Nat) : Int) s.toks = Value.int ((ys.countP fun z => eqV z y : Nat) : Int) s.toks
  rw [ec]
end
theorem countP_vP {y : PyData} (f : flatP y = true) : ∀ {ps : List PyData}, ps.all flatP = true → (ps.map vP).countP (fun z => eqV z (vP y)) = ps.countP fun z => PyData.eqv z y
  | [], _ => rfl
  | p :: ps, g => by
    rw [List.all_cons, Bool.and_eq_true] at g
    rw [List.map_cons, List.countP_cons, List.countP_cons, countP_vP f g.2, eqV_vP g.1 f]
theorem find_some {α : Type} {t : α → Bool} {l : List α} {j : Nat} (h : l.findIdx? t = some j) : ∃ z, l[j]? = some z ∧ t z = true ∧ ∀ m z', m < j → l[m]? = some z' → t z' = false := by
  rw [List.findIdx?_eq_some_iff_getElem] at h
  obtain ⟨hl, h1, h2⟩ := h
  refine ⟨l[j], List.getElem?_eq_getElem hl, h1, fun m z' hm hz => ?_⟩
  obtain ⟨hml, rfl⟩ := List.getElem?_eq_some_iff.mp hz
  exact Bool.eq_false_iff.mpr (h2 m hm)
section
variable {T : Tb} {fr : Bool} {x : Str} {pos p2 p apos : Pos} {a b c e tg : Expr} {es : List Expr} {ia ib ic ie : E} {is : List E}
theorem flat_rep {K : PySem.W.Frag} {G : Addr → Prop} {H : Hp} {y : PyData} {v : V} (f : flatP y = true) (h : RepI K G H y v) : v = vP y := by
  cases y with
  | list ps => cases f
  | dict _ => cases f
  | _ => exact flat_v (K := K) (G := G) (H := H) f h
theorem meth_read {Y : Xsys} {W : XW} {Φ : Nat → List PyData → R PyData} {X : Cx} {m : Mt} {r : V → List V → Hp → VK → Prop} (hr : ∀ (xs : List PyData) (y : PyData) (ad : Addr) (vs : List V) (v : V) (G : Addr → Prop) (H : Hp) (Q : VK), SqL X.K H ad vs → Reps X.K G H xs vs → RepI X.K G H y v → RP W (methV m xs y) (fun p => ∀ i : Int, p = .int i → Q (.int i) H) → r (.ref ad) [v] H Q)
    {σ : L2.St} {H : Hp} {Q : VK} (h : rd (Y.kb X.K) W (evE Φ (.meth m ia ib)) [] [] false σ H Q) :
    tBM X.K "list" r (rd (Y.kb X.K) W (evE Φ ia) (lk ia) (lkI ia) (fresh ia)) (tCons (rd (Y.kb X.K) W (evE Φ ib) (lk ib) (lkI ib) (fresh ib)) tNil) σ H Q := by
  obtain ⟨ρ, F, H0, er, h⟩ := h
  unfold evE at h
  refine ⟨ρ, F, H0, er, (RP.bind h).mono fun z hz v1 H1 s1 r1 i1 => ?_⟩
  cases z with
  | list xs =>
    obtain ⟨ad, vs, rfl, sq, rr⟩ := i1
    have er1 := er.grow s1
    refine ⟨.inl ⟨rfl, vs, sq⟩, ρ, F, H0, er1, (RP.bind (show RP W ((evE Φ ib ρ).bind fun y => methV m xs y) _ from hz)).mono fun y hy v2 H2 s2 r2 i2 => ?_⟩
    have er2 := er1.grow s2
    refine hr xs y ad vs v2 (FX F (lkI ia ++ lkI ib) σ ρ) H2 Q (s2.seq sq) ((rr.same (er1.ftX _) s2).sub FX.l) (i2.sub FX.r) (hy.mono fun p hp i e => ?_)
    subst e
    exact hp _ H2 (s1.trans s2) (repR_of rep_int rfl) (.of rep_int)
  | _ => exact False.elim hz
def noSup : Expr → Bool
  | .Call _ [] _ _ => false
  | _ => true
theorem noSup_base {o : Expr} (h : noSup o = true) (attr : Str) (env : Env) : attributeBase o attr env (eval o env) = eval o env := by
  cases o with
  | Call f args kws pos =>
    cases args with
    | nil => cases h
    | cons a as => cases f <;> rfl
  | _ => rfl
theorem se_cnt (hs : noSup a = true) (ha : SE T a ia) (hb : SE T b ib) (hline : (apos.endLine == p2.line) = true) : SE T (.Call (.Attribute a "count" apos) [b] [] p2) (.meth .cnt ia ib) := by
  refine ⟨rfl, fun Y W Φ X ok => PE.imp (pe_bm PySem.F.plainAttrs_list PySem.F.slot_list_count PySem.F.type_list_count mt_lcountF (ha.2 Y W Φ X ok) (pa_cons (hb.2 Y W Φ X ok) pa_nil (plainE_star hb.1 _ _))
    ?_ ?_ hline (plainE_star hb.1 _ _) (by rfl)) fun σ H Q h => meth_read (W := W) (fun xs y ad vs v G H Q sq rr ri h => ?_) h⟩
  · exact noSup_base hs _ _
  · rw [plainE_star hb.1]; rfl
  · obtain ⟨c, h⟩ := RP.guard h
    rw [Bool.and_eq_true] at c
    have ev := flat_vs c.2 rr
    have ey := flat_rep c.1 ri
    subst ev ey
    refine ⟨ad, _, _, rfl, rfl, sq, flatV_vP c.1, flatV_vPs c.2, ?_⟩
    rw [countP_vP c.1 c.2]
    exact h _ rfl
theorem eqvF {p q : PyData} (f : flatP p = true) (g : flatP q = true) {b : Bool} (h : PyData.eqv p q = b) : eqV (vP p) (vP q) = b := by rw [eqV_vP f g, h]
theorem se_ix (hs : noSup a = true) (ha : SE T a ia) (hb : SE T b ib) (hline : (apos.endLine == p2.line) = true) : SE T (.Call (.Attribute a "index" apos) [b] [] p2) (.meth .ix ia ib) := by
  have or_rule : ∀ {X : Cx} {id : String} {r r' : V → List V → Hp → VK → Prop}, MtR X id r → MtR X id r' → MtR X id (fun x xs H Q => r x xs H Q ∨ r' x xs H Q) := fun h h' pins s σ H x xs v us Q I rx rxs q => q.elim (h pins s σ H x xs v us Q I rx rxs) (h' pins s σ H x xs v us Q I rx rxs)
  refine ⟨rfl, fun Y W Φ X ok => PE.imp (pe_bm PySem.F.plainAttrs_list PySem.F.slot_list_index PySem.F.type_list_index (or_rule mt_index (mt_indexD ok.unitsM)) (ha.2 Y W Φ X ok) (pa_cons (hb.2 Y W Φ X ok) pa_nil (plainE_star hb.1 _ _))
    ?_ ?_ hline (plainE_star hb.1 _ _) (by rfl)) fun σ H Q h => meth_read (W := W) (fun xs y ad vs v G H Q sq rr ri h => ?_) h⟩
  · exact noSup_base hs _ _
  · rw [plainE_star hb.1]; rfl
  · obtain ⟨c, h⟩ := RP.guard h
    cases e : xs.findIdx? fun z => PyData.eqv z y with
    | none => rw [e] at h; exact False.elim h
    | some j =>
      rw [e] at h
      obtain ⟨z, hz, hzy, hno⟩ := find_some e
      have q := h _ rfl
      by_cases c1 : (flatP y && xs.all flatP) = true
      · rw [Bool.and_eq_true] at c1
        have ev := flat_vs c1.2 rr
        have ey := flat_rep c1.1 ri
        subst ev ey
        have fz : ∀ {m : Nat} {z : PyData}, xs[m]? = some z → flatP z = true := fun h => List.all_eq_true.mp c1.2 _ (List.mem_of_getElem? h)
        refine .inl ⟨ad, _, _, j, vP z, rfl, rfl, sq, flatV_vP c1.1, flatV_vPs c1.2, by rw [List.getElem?_map, hz]; rfl, eqvF (fz hz) c1.1 hzy, fun m z' hm hz' => ?_, q⟩
        rw [List.getElem?_map] at hz'
        cases e2 : xs[m]? with
        | none => rw [e2] at hz'; cases hz'
        | some w =>
          rw [e2] at hz'
          cases hz'
          exact eqvF (fz e2) c1.1 (hno m w hm e2)
      · rw [Bool.or_eq_true] at c
        have c2 := c.resolve_left c1
        rw [Bool.and_eq_true] at c2
        have k1 := SeqAt.canLay_of_shaped c2.1
        unfold PyData.canLay0 at k1
        exact .inr ⟨ad, v, y, xs, j, z, rfl, rfl, .lst sq (Reps.dp xs vs k1 rr), dpI (SeqAt.canLay_of_shaped c2.2) ri, c2.1, c2.2, hz, hzy, hno, q⟩
theorem se_bitl (hs : noSup a = true) (ha : SE T a ia) (hline : (apos.endLine == p2.line) = true) : SE T (.Call (.Attribute a "bit_length" apos) [] [] p2) (.bitl ia) := by
  refine ⟨rfl, fun Y W Φ X ok => PE.imp (pe_bits (ha.2 Y W Φ X ok) (noSup_base hs _ _) hline) fun σ H Q ⟨ρ, F, H0, er, h⟩ => ?_⟩
  unfold evE at h
  refine ⟨ρ, F, H0, er, (RP.bind h).mono fun z hz v1 H1 s1 r1 i1 => ?_⟩
  cases z with
  | int i => exact ⟨i, two_int i1, hz _ H1 s1 (repR_of rep_int rfl) (.of rep_int)⟩
  | _ => exact False.elim hz
theorem rg_reps {K : PySem.W.Frag} {G : Addr → Prop} {H : Hp} (j : Int) : Reps K G H (rangeP 0 j.toNat 1) (rgV 0 j) := by
  unfold rangeP rgV
  rw [Int.sub_zero]
  generalize List.range j.toNat = l
  induction l with
  | nil => show Reps K G H [] []; unfold Reps; trivial
  | cons i l ih =>
    show Reps K G H (.int (0 + (i : Int) * 1) :: _) (.int (0 + (i : Int)) :: _)
    unfold Reps
    refine ⟨?_, ih⟩
    rw [Int.mul_one]
    exact rep_int
theorem se_lrg {p3 p4 : Pos} (hcm : T.cm = true) (hg : gloB T.scope "list" = true) (hb : ("list" : Str) ∈ T.blts) (hg2 : gloB T.scope "range" = true) (hb2 : ("range" : Str) ∈ T.blts) (ha : SE T a ia) : SE T (.Call (.Name "list" p3) [.Call (.Name "range" p4) [a] [] p2] [] pos) (.lrg ia) := by
  refine ⟨rfl, fun Y W Φ X ok => PE.imp (pe_listRg (ok.calm hcm) (gloB_ok ok hg) (ok.blt _ hb) (prg_1 (gloB_ok ok hg2) (ok.blt _ hb2) (ha.2 Y W Φ X ok) (plainE_star ha.1 _ _))) fun σ H Q ⟨ρ, F, H0, er, h⟩ => ?_⟩
  unfold evE at h
  refine ⟨ρ, F, H0, er, (RP.bind h).mono fun z hz v1 H1 s1 r1 i1 => ?_⟩
  cases z with
  | int j =>
    obtain ⟨c, hz⟩ := RP.guard hz
    rw [Bool.and_eq_true] at c
    have c1 := of_decide_eq_true c.1
    have c2 := of_decide_eq_true c.2
    refine ⟨j, two_int i1, ⟨by decide, by decide, c1, by omega, by omega⟩, fun u hu => ?_⟩
    have R := new_list hu ((er.grow s1).ftX []) (rg_reps (K := X.K) (H := H1) j)
    exact hz (.ref u) _ (s1.trans (upd_same_grow hu)) (R.sub (fun _ z => z) s1) (.of R.1)
  | _ => exact False.elim hz
theorem rg_reps2 {K : PySem.W.Frag} {G : Addr → Prop} {H : Hp} (i j : Int) : Reps K G H (rangeP i (j - i).toNat 1) (rgV i j) := by
  unfold rangeP rgV
  generalize List.range (j - i).toNat = l
  induction l with
  | nil => show Reps K G H [] []; unfold Reps; trivial
  | cons q l ih =>
    show Reps K G H (.int (i + (q : Int) * 1) :: _) (.int (i + (q : Int)) :: _)
    unfold Reps
    refine ⟨?_, ih⟩
    rw [Int.mul_one]
    exact rep_int
theorem se_lrg2 {p3 p4 : Pos} (hcm : T.cm = true) (hg : gloB T.scope "list" = true) (hb : ("list" : Str) ∈ T.blts) (hg2 : gloB T.scope "range" = true) (hb2 : ("range" : Str) ∈ T.blts) (ha : SE T a ia) (hc : SE T b ib) : SE T (.Call (.Name "list" p3) [.Call (.Name "range" p4) [a, b] [] p2] [] pos) (.lrg2 ia ib) := by
  refine ⟨rfl, fun Y W Φ X ok => PE.imp (pe_listRg (ok.calm hcm) (gloB_ok ok hg) (ok.blt _ hb) (prg_2 (gloB_ok ok hg2) (ok.blt _ hb2) (ha.2 Y W Φ X ok) (hc.2 Y W Φ X ok) (plainE_star ha.1 _ _) (plainE_star hc.1 _ _) (by rw [plainE_star hc.1]; rfl))) fun σ H Q ⟨ρ, F, H0, er, h⟩ => ?_⟩
  unfold evE at h
  refine ⟨ρ, F, H0, er, (RP.bind h).mono fun z hz v1 H1 s1 r1 i1 => ⟨ρ, F, H0, er.grow s1, (RP.bind hz).mono fun y hy v2 H2 s2 r2 i2 => ?_⟩⟩
  cases z with
  | int i =>
    cases y with
    | int j =>
      obtain ⟨c, hy⟩ := RP.guard (show RP W (guardR (decide (-(2 ^ 62) ≤ i) && (decide (i ≤ 16777216) && (decide (-(2 ^ 62) ≤ j) && (decide (j ≤ 16777216) && decide (j - i ≤ 16777216))))) (.ok (PyData.list (rangeP i (j - i).toNat 1)))) _ from hy)
      simp only [Bool.and_eq_true, decide_eq_true_eq] at c
      obtain ⟨c1, c2, c3, c4, c5⟩ := c
      have sm := s1.trans s2
      refine ⟨i, j, two_int i1, two_int i2, ⟨c1, by omega, c3, by omega, by omega⟩, fun u hu => ?_⟩
      have R := new_list hu ((er.grow sm).ftX []) (rg_reps2 (K := X.K) (H := H2) i j)
      exact hy (.ref u) _ (sm.trans (upd_same_grow hu)) (R.sub (fun _ z => z) sm) (.of R.1)
    | _ => exact False.elim hy
  | _ => cases y <;> exact False.elim hy
/-! ### e is not True, of a truth -/
theorem op_notT {X : Cx} : OpR X (compareOp .IsNot) (fun x y H Q => ∃ b, x = .bl b ∧ y = .bl true ∧ Q (.bl (!b)) H) := by
  intro pins s σ H x y v u Q I rx ry h
  obtain ⟨b, rfl, rfl, q⟩ := h
  cases rx
  cases ry
  show wpAny _ _ ((isSame (.bool b) (.bool true)) >>= fun z => pure (Value.bool (!z))) _ _ s
  refine wpAny_bind ?_
  show wpAny _ _ (pure ((Value.bool b) == (Value.bool true))) _ _ s
  refine wpAny_pure (wpAny_pure (fin_bl I q ?_))
  cases b <;> rfl
theorem se_isntT {k : Nat} (ha : SE T a ia) : SE T (.Compare a [.IsNot] [.Constant (.bool true) k p2] pos) (.nt ia) := by
  refine ⟨rfl, fun Y W Φ X ok => PE.imp (pe_cmpR op_notT (ha.2 Y W Φ X ok) pe_bl rfl) fun σ H Q ⟨ρ, F, H0, er, h⟩ => ?_⟩
  unfold evE at h
  refine ⟨ρ, F, H0, er, (RP.bind h).mono fun x hx v1 H1 s1 r1 i1 => ?_⟩
  cases x with
  | bool i => exact ⟨i, repI_bool i1, rfl, hx _ H1 s1 (repR_of rep_bool rfl) (.of rep_bool)⟩
  | _ => exact False.elim hx
theorem st_isntT {k : Nat} (ha : SE T a ia) : ST T (.Compare a [.IsNot] [.Constant (.bool true) k p2] pos) (.nt ia) := by
  refine fun Y W Φ X ok => PT.imp (pt_cmpR op_notT (ha.2 Y W Φ X ok) pe_bl rfl) fun σ H Q ⟨ρ, F, H0, er, h⟩ => ?_
  have h := RP.bind h
  unfold evE at h
  refine ⟨ρ, F, H0, er, (RP.bind h).mono fun x hx v1 H1 s1 r1 i1 => ?_⟩
  cases x with
  | bool i => exact ⟨i, repI_bool i1, rfl, !i, rfl, hx H1 s1⟩
  | _ => exact False.elim hx
/-- x.insert(k, e), of a list that the name owns -/
theorem ss_ins {i : Nat} {k : Expr} {ik : E} (hN : T.N[i]? = some x) (hv : visB T.scope x = true) (hn : nameB x = true) (hk : SE T k ik) (ha : SE T a ie) (hline : (apos.endLine == p2.line) = true) :
    SS T fr (.Expr (.Call (.Attribute (.Name x p) "insert" apos) [k, a] [] p2) pos) (.ins i ik ie) := fun Y W Φ w X ok => by
  obtain ⟨n1, n2, _⟩ := nameB_ok hn
  refine PS.imp (ps_expr (pe_bm PySem.F.plainAttrs_list PySem.F.slot_list_insert PySem.F.type_list_insert mt_insert (pe_var (by rw [ok.N]; exact hN) (by rw [ok.sc]; exact visB_ok hv) n1 n2) (pa_cons (hk.2 Y W Φ X ok) (pa_cons (ha.2 Y W Φ X ok) pa_nil (plainE_star ha.1 _ _)) (plainE_star hk.1 _ _))
    (by rfl) ?_ hline (plainE_star hk.1 _ _) ?_) (by rfl)) fun D σ H ⟨ρ, F, H0, er, h⟩ => ?_
  · rw [plainE_star hk.1, plainE_star ha.1]; rfl
  · rw [plainE_star ha.1]; rfl
  · unfold evS at h
    split at h
    · rename_i xs e
      obtain ⟨ps, ad, vs, eq, e1, e2, _⟩ := er.own i _ e
      cases eq
      refine ⟨_, e1, .inl ⟨rfl, vs, .inl (.inl e2)⟩, ρ, F, H0, er, (RP.bind h).mono fun kv hkv v1 H1 s1 r1 i1 => ?_⟩
      cases kv with
      | int kk =>
        have er1 := er.grow s1
        refine ⟨ρ, F, H0, er1, (RP.bind (show RP W ((evE Φ ie ρ).bind fun p => guardR (decide (0 ≤ kk) && decide (kk < 2 ^ 62) && fitsN xs.length && noList p) (.ok (Fl.nx (ρ.set i (some (true, .list (xs.take kk.toNat ++ [p] ++ xs.drop kk.toNat))))))) (FlP (Y.kb X.K) F H0 fr D) from hkv)).mono fun q hq v2 H2 s2 r2 i2 => ?_⟩
        have er2 := er1.grow s2
        obtain ⟨c, hq⟩ := RP.guard hq
        simp only [Bool.and_eq_true] at c
        obtain ⟨⟨⟨c1, c2⟩, c3⟩, c4⟩ := c
        have c1 := of_decide_eq_true c1
        have c2 := of_decide_eq_true c2
        obtain ⟨ps2, ad2, vs2, eq2, f1, f2, f3, f4, f5⟩ := er2.own i _ e
        cases eq2
        rw [e1] at f1
        cases f1
        have rq : Rep X.K (FX F [] σ ρ) H2 q v2 := rep_noList _ _ c4 r2.1
        refine ⟨ad, vs2, kk, v2, rfl, by rw [two_int i1], f2, by rw [f5.length, sizeLine_eq]; have := of_decide_eq_true (show decide (xs.length ≤ 16000000) = true from c3); omega, c1, Int.lt_trans c2 (by decide), ?_⟩
        exact hq σ _ (er2.mutate e e1 (((f5.take _).append (show Reps X.K _ H2 [q] [v2] by unfold Reps; exact ⟨rq, by unfold Reps; trivial⟩)).append (f5.drop _)))
      | _ => exact False.elim hkv
    · exact False.elim h
end
/-! ### zip -/
section
variable {K : PySem.W.Frag} {G : Addr → Prop} {H : Hp}
theorem zipP_get {xs ys : List PyData} {i : Nat} {p : PyData} (h : (zipP xs ys)[i]? = some p) : ∃ a b, xs[i]? = some a ∧ ys[i]? = some b ∧ p = .tuple [a, b] := by
  unfold zipP at h
  rw [List.getElem?_zipWith] at h
  cases e1 : xs[i]? with
  | none => rw [e1] at h; cases h
  | some a =>
    cases e2 : ys[i]? with
    | none => rw [e1, e2] at h; cases h
    | some b =>
      rw [e1, e2] at h
      cases h
      exact ⟨a, b, rfl, rfl, rfl⟩
theorem zipP_len {xs ys : List PyData} (h : xs.length = ys.length) : (zipP xs ys).length = xs.length := by unfold zipP; rw [List.length_zipWith]; omega
theorem itOk_zipL {a b : Addr} {vs ws : List V} {xs ys : List PyData} (ft : FT G H) (la : LsR K G H a vs) (lb : LsR K G H b ws) (ra : Reps K G H xs vs) (rb : Reps K G H ys ws) (hl : xs.length = ys.length) : ItOk K G H (Itz K a b) (zipP xs ys) := fun Z hZ i H1 ex => by
  have sa : SqL K H1 a vs := (la.ext ex).sql
  have sb : SqL K H1 b ws := (lb.ext ex).sql
  have r1 := Reps.extN (F := fun a => G a ∨ Z a) (H' := H1) (fun b o f e => f.elim (fun f => ft.nt b o f e) fun f => by rw [hZ b f] at e; cases e) (fun b o e n => ex b o e fun z => n (.inl z)) _ _ (reps_avoidZ hZ _ _ ra)
  have r2 := Reps.extN (F := fun a => G a ∨ Z a) (H' := H1) (fun b o f e => f.elim (fun f => ft.nt b o f e) fun f => by rw [hZ b f] at e; cases e) (fun b o e n => ex b o e fun z => n (.inl z)) _ _ (reps_avoidZ hZ _ _ rb)
  refine ⟨fun p hp => ?_, fun hi => ⟨vs, ws, sa, sb, .inl (by rw [ra.length]; rw [zipP_len hl] at hi; exact hi)⟩⟩
  obtain ⟨q, q2, hq, hq2, rfl⟩ := zipP_get hp
  obtain ⟨v, ev, _⟩ := r1.get hq
  obtain ⟨v2, ev2, _⟩ := r2.get hq2
  refine ⟨⟨vs, ws, v, v2, sa, sb, ev, ev2⟩, fun x H2 y => ?_⟩
  obtain ⟨T, z, z2, rfl, hT, rfl, y1, y2⟩ := y
  exact pair_new hT (r1.get' (y1 vs sa) hq) (r2.get' (y2 ws sb) hq2)
theorem itOk_zipT {a b : Addr} {vs ws : List V} {xs ys : List PyData} (ft : FT G H) (la : SqT K H a vs) (lb : SqT K H b ws) (ra : Reps K G H xs vs) (rb : Reps K G H ys ws) (hl : xs.length = ys.length) : ItOk K G H (RZ.ItzT K a b) (zipP xs ys) := fun Z hZ i H1 ex => by
  have sa : SqT K H1 a vs := sqT_ext la ft ex
  have sb : SqT K H1 b ws := sqT_ext lb ft ex
  have r1 := Reps.extN (F := fun a => G a ∨ Z a) (H' := H1) (fun b o f e => f.elim (fun f => ft.nt b o f e) fun f => by rw [hZ b f] at e; cases e) (fun b o e n => ex b o e fun z => n (.inl z)) _ _ (reps_avoidZ hZ _ _ ra)
  have r2 := Reps.extN (F := fun a => G a ∨ Z a) (H' := H1) (fun b o f e => f.elim (fun f => ft.nt b o f e) fun f => by rw [hZ b f] at e; cases e) (fun b o e n => ex b o e fun z => n (.inl z)) _ _ (reps_avoidZ hZ _ _ rb)
  refine ⟨fun p hp => ?_, fun hi => ⟨vs, ws, sa, sb, .inl (by rw [ra.length]; rw [zipP_len hl] at hi; exact hi)⟩⟩
  obtain ⟨q, q2, hq, hq2, rfl⟩ := zipP_get hp
  obtain ⟨v, ev, _⟩ := r1.get hq
  obtain ⟨v2, ev2, _⟩ := r2.get hq2
  refine ⟨⟨vs, ws, v, v2, sa, sb, ev, ev2⟩, fun x H2 y => ?_⟩
  obtain ⟨T, z, z2, rfl, hT, rfl, y1, y2⟩ := y
  exact pair_new hT (r1.get' (y1 vs sa) hq) (r2.get' (y2 ws sb) hq2)
end
section
variable {T : Tb} {x : Str} {pos p2 p : Pos} {a b c e tg : Expr} {ia ib ic ie : E}
theorem si_zip {ts : List Expr} {kk : Nat} (hg : gloB T.scope "zip" = true) (hb : ("zip" : Str) ∈ T.blts) (hs : SA T [a, b] [ia, ib]) : SI T (.Tuple ts kk p2) (.Call (.Name "zip" p) [a, b] [] pos) .zip [ia, ib] := by
  have pl := hs.1
  simp only [List.all_cons, Bool.and_eq_true] at pl
  refine ⟨rfl, fun Y W Φ X ok => PI.imp (RZ.pi_zipA (gloB_ok ok hg) (ok.blt _ hb) (hs.2 Y W Φ X ok) (plainE_star pl.1 _ _) (by rw [plainE_star pl.2.1]; rfl)) fun σ H Q ⟨ρ, F, H0, er, h⟩ => ?_⟩
  refine ⟨ρ, F, H0, er, (RP.bind h).mono fun ps hps vs H1 s1 r1 => ?_⟩
  have ft := (er.grow s1).ftX (lks [ia, ib])
  match ps, vs, r1, hps with
  | [z1, z2], [v1, v2], r1, hps =>
    unfold Reps at r1
    obtain ⟨q1, r1⟩ := r1
    unfold Reps at r1
    obtain ⟨q2, _⟩ := r1
    cases z1 with
    | list xs =>
      cases z2 with
      | list ys =>
        obtain ⟨c, hps⟩ := RP.guard (show RP W (guardR (decide (xs.length = ys.length)) (.ok (zipP xs ys))) _ from hps)
        unfold Rep at q1 q2
        obtain ⟨a1, w1, rfl, l1, r1⟩ := q1
        obtain ⟨a2, w2, rfl, l2, r2⟩ := q2
        exact ⟨a1, a2, w1, w2, rfl, .inl ⟨l1.sql, l2.sql, hps _ H1 s1 (itOk_zipL ft l1 l2 r1 r2 (of_decide_eq_true c))⟩⟩
      | _ => exact False.elim hps
    | tuple xs =>
      cases z2 with
      | tuple ys =>
        obtain ⟨c, hps⟩ := RP.guard (show RP W (guardR (decide (xs.length = ys.length)) (.ok (zipP xs ys))) _ from hps)
        unfold Rep at q1 q2
        obtain ⟨a1, w1, rfl, l1, r1⟩ := q1
        obtain ⟨a2, w2, rfl, l2, r2⟩ := q2
        exact ⟨a1, a2, w1, w2, rfl, .inr ⟨l1.sq, l2.sq, hps _ H1 s1 (itOk_zipT ft l1 l2 r1 r2 (of_decide_eq_true c))⟩⟩
      | _ => exact False.elim hps
    | _ => exact False.elim hps
  | [], [], r1, hps => exact False.elim hps
  | [z1], [v1], r1, hps =>
    have hps : RP W (src1 .zip z1) _ := hps
    cases z1 <;> exact False.elim hps
  | [_, _, _], _, r1, hps => exact False.elim (show RP W .bad _ from hps)
  | _ :: _ :: _ :: _ :: _, _, r1, hps => exact False.elim (show RP W .bad _ from hps)
  | [], _ :: _, r1, _ => unfold Reps at r1; exact r1.elim
  | _ :: _, [], r1, _ => unfold Reps at r1; exact r1.elim
  | [_], _ :: _ :: _, r1, _ => unfold Reps at r1; obtain ⟨_, r1⟩ := r1; unfold Reps at r1; exact r1.elim
  | [_, _], [_], r1, _ => unfold Reps at r1; obtain ⟨_, r1⟩ := r1; unfold Reps at r1; exact r1.elim
  | [_, _], _ :: _ :: _ :: _, r1, _ => unfold Reps at r1; obtain ⟨_, r1⟩ := r1; unfold Reps at r1; obtain ⟨_, r1⟩ := r1; unfold Reps at r1; exact r1.elim
end
section
variable {T : Tb} {fr : Bool} {x y cn : Str} {pos p2 p p3 pos' np : Pos} {e : Expr} {es : List Expr} {ie : E} {is : List E}
theorem ss_tryN {b : TB} {h : List S} {st0 : Stmt} {sts body : List Stmt} (hcm : T.cm = true) (htp : T.tp = true) (hcn : cn ∈ T.cls) (hg : gloB T.scope cn = true) (hn : nameB cn = true) (hb : STB T fr body b) (hsu : SSs T.suite fr (st0 :: sts) h) :
    SS T fr (.Try body [.ExceptHandler (some (.Name cn np)) none (st0 :: sts) pos'] [] [] pos) (.tryx b cn none h) := fun Y W Φ w X ok => by
  obtain ⟨n1, _, _⟩ := nameB_ok hn
  obtain ⟨hm, hcl⟩ := ok.cls cn hcn
  obtain ⟨s1, s2⟩ := ok.stk htp
  refine PS.imp (L2N.ps_try_many s1 s2 (ok.tk htp)
    (tb := fun Wx => rdB (Y.kb X.K) fr Wx (evTB Φ b)) (fun Wx pn xe tk own => hb Y W Φ X ok Wx pn xe tk own)
    (.cons (ts := fun _ _ _ => rdS (Y.kb X.K) (fun _ _ => False) fr (evSs Φ w h)) ⟨gloB_ok ok hg, n1, .inl hm⟩ (fun a oe cls d pn _ _ => hsu Y _ Φ w _ (cx_suite ok a _)) .nil)) fun D σ H ⟨ρ, F, H0, er, hh⟩ => ?_
  refine ⟨ρ, F, H0, er, ?_⟩
  unfold evS at hh
  cases eb : evTB Φ b ρ with
  | ok fl => rw [eb] at hh; exact hh
  | bad => rw [eb] at hh; exact False.elim hh
  | ex c as =>
    rw [eb] at hh
    have hh : RP W (handV (subX c cn) as ((evSs Φ w h ρ).bind fun fl => .ok (unsetF none fl)) c) (FlP (Y.kb X.K) F H0 fr D) := hh
    show RX _ _ _ _ c as
    rintro cls d H' sm ⟨rfl, rfl, rfl, ex⟩
    have q := ((exOk_ok ex).al cn hcl).2
    have er' := er.grow sm
    cases es : subX c cn with
    | none => rw [es] at hh; exact False.elim hh
    | some t =>
      rw [es] at q hh
      refine ⟨t, q, fun et a na => ?_, fun et => ?_⟩
      · subst et
        obtain ⟨_, hh⟩ := RP.guard (show RP W (guardR ([] : List PyData).isEmpty ((evSs Φ w h ρ).bind fun fl => .ok (unsetF none fl)).calm) _ from hh)
        refine ⟨ρ, F, H0, er', ?_⟩
        refine (RP.bind (RP.calm (W' := fun _ _ => False) hh)).mono fun fl hfl => ?_
        cases fl with
        | nx ρ1 => exact fun σ2 H2 e2 => hfl _ _ e2
        | bk ρ1 => exact fun σ2 H2 e2 => hfl _ _ e2
        | ct ρ1 => exact fun σ2 H2 e2 => hfl _ _ e2
        | rt p => exact hfl
      · subst et
        exact ⟨er'.bs.trans er'.same, c, [], hh, rfl, rfl, rfl, ex⟩
end
end L2.Pu
/-! ### machine rules: the set of a list of ints, sorted of a set of tuples, list of a reversed list, remove by data -/
namespace L2.Pu
open PySem PySem.Spec PyProof.Rows
section
variable {prog : Program} {w : World} {A : Around} {E : Value → Shared → Prop} {s : Shared}
abbrev newSet (w : World) : Obj := { cls := .type "set", dict := none, data := .set #[] 0 (.fresh 0 0 (!w.params.followText "set-order")) }
theorem set_of_ints {l : Addr} {items : Array Value} {ns : List Int} {Q : Value → Shared → Prop} (hh : A.handled = none) (hl : s.heap.IsList l items) (hi : IntsAre items.toList ns) (hb : ns.length + 1 < scanBound)
    (h : ∀ (h' : Heap) (tk c : Nat), SetR w h' s.heap.objs.size (fun j => decide (j ∈ ns)) c → c ≤ ns.length → (∀ b o, s.heap.get? b = some o → h'.get? b = some o) → Q (.ref s.heap.objs.size) { s with heap := h', toks := tk }) :
    wpAny (model prog w) A (PySem.call (.type "set") [.ref l]) Q E s := by
  have sz : items.size = ns.length := by rw [← Array.length_toList]; exact IntsAre.length hi
  have g0 : (s.heap.push (newSet w)).get? s.heap.objs.size = some (newSet w) := Heap.get?_push_size _ rfl
  have tS : Shared.TypeIs { s with heap := s.heap.push (newSet w) } (.ref s.heap.objs.size) "set" := ⟨_, g0, rfl⟩
  have q1 := F.called_set.made
  have q2 := F.called_set.sub
  have q3 := F.called_set.notType
  have q4 := F.called_set.canCreate
  have q5 := F.typeCall_set_1 (.ref l)
  have q6 := F.called_set.init.lookup
  have q7 := F.called_set.init.bind (.ref s.heap.objs.size)
  obtain ⟨c0, t0, q0⟩ := F.called_set.mro
  refine wpAny_call (codeAny_of_tree (show wpAny _ _ (callAny (.type "set") _) _ _ _ from ?_))
  refine wpAny_pure ⟨Code.quiet_builtin _ (by decide +kernel), codeAny_builtin F.entry_type_call ?_⟩
  rw [Around.under_plain (weight_type_call_type "set" [.ref l] []) rfl]
  repeat (any_goals (first | assumption | wp_step))
  refine codeAny_mono (code_set_led1 (.ref l) (E := E) (Q₁ := fun o s₁ => o = .ref s.heap.objs.size ∧ s₁ = { s with heap := s.heap.push (newSet w) }) ⟨rfl, rfl⟩) fun r s₁ e => ?_
  rcases r with _ | _ | _ | _ | o
  all_goals first | exact e | exact e.elim | skip
  obtain ⟨rfl, rfl⟩ := e
  repeat (any_goals (first | assumption | wp_step))
  refine codeAny_mono (codeAny_call_builtin (R := wants (fun r s₂ => r = .none ∧ Q (.ref s.heap.objs.size) s₂) E) F.called_set.init.plain F.entry_set_init (check_set_init_1 tS ?_)) fun r s₂ e => ?_
  rotate_left
  · rcases r with _ | _ | _ | _ | o
    all_goals first | exact e | exact e.elim | skip
    obtain ⟨rfl, e⟩ := e
    repeat (any_goals (first | assumption | wp_step))
  have l1 : (s.heap.push (newSet w)).IsList l items := hl.push _
  obtain ⟨⟨k1, k2, k3, k4⟩, g1, e1, n1, e2⟩ := id l1
  simp only at e1 e2
  subst e1 e2
  have hs1 := F.sub_list_set
  have hs2 := F.sub_list_frozenset
  have ne : (Value.type "list" == Value.type "dict") = false := by decide
  have lt : l < s.heap.objs.size := by
    obtain ⟨o, e, _⟩ := hl
    exact Heap.lt_size e
  have s1 : (s.heap.push (newSet w)).objs.size = s.heap.objs.size + 1 := Heap.size_push ..
  unfold Builtin.«set.__init__» noKeywords Builtin.Frozenset.updateFrom
  generalize hP : pyIter = P
  wp_walk
  subst hP
  refine wpAny_pyIter_list l1 ?_
  refine wpAny_bind (wpAny_runValue ?_)
  have val : ∀ (i : Nat) (v : Value), items[i]? = some v → ∃ k t, ns[i]? = some k ∧ v = .int k t := fun i v hv => by
    have il : i < ns.length := by rw [← sz]; exact (Array.getElem?_eq_some_iff.mp hv).1
    obtain ⟨t, q⟩ := hi.get i ns[i] (List.getElem?_eq_getElem il)
    refine ⟨ns[i], t, List.getElem?_eq_getElem il, ?_⟩
    rw [Array.getElem?_toList, hv] at q
    exact Option.some.inj q
  refine set_update_ints ((Walks.list (show A.in1.in1.in1.handled = none from hh) _ l (by rw [s1]; exact Nat.ne_of_lt (Nat.lt_succ_of_lt lt)) items).toS) s.heap.objs.size (by
    rw [s1]; simp only [List.mem_cons, List.not_mem_nil, or_false, not_or]; exact ⟨Nat.ne_of_lt (Nat.lt_succ_self _), Nat.ne_of_gt lt⟩) ns sz hb val _ 0 _ (Nat.sub_zero _) (Nat.zero_le _)
    ⟨⟨_, Heap.get?_push_size _ rfl, rfl, rfl⟩, l1.push _⟩ ⟨0, Nat.le_refl 0, setR_new_at (Heap.get?_push_of_some _ g0)⟩ fun s' c m hc R => ?_
  obtain ⟨h', a1, a2, tk, a3⟩ := s'
  obtain rfl : a1 = s.gens := m.gens
  obtain rfl : a2 = s.drawn := m.drawn
  obtain rfl : a3 = s.os := m.os
  refine wpAny_pure ?_
  show wpAny _ _ (ret Value.none) _ _ _
  refine wpAny_pure ⟨rfl, h h' tk c R (by rw [← sz]; exact hc) fun b o e => ?_⟩
  have bl : b < s.heap.objs.size := Heap.lt_size e
  exact m.heap b o (by rw [s1]; simp only [List.mem_cons, List.not_mem_nil, or_false, not_or]; exact ⟨Nat.ne_of_lt bl, Nat.ne_of_lt (Nat.lt_succ_of_lt bl)⟩) (Heap.get?_push_of_some _ (Heap.get?_push_of_some _ e))
end
end L2.Pu
namespace L2.Pu
open PySem PySem.Spec PyProof.Rows
/-! ### sorted(set(x)) -/
section
variable {X : Cx}
/-- set(x), x a list or a tuple of ints -/
def rSetOfI (K : PySem.W.Frag) (w : World) : List V → Hp → VK → Prop := fun vs H Q => ∃ (l : Addr) (ns : List Int), vs = [V.ref l] ∧ (SqL K H l (ns.map V.int) ∨ SqT K H l (ns.map V.int)) ∧ ns.length < 64 ∧
  ∀ a c, H a = none → c ≤ ns.length → Q (.ref a) (upd H a (SetO w a (fun j => decide (j ∈ ns)) c))
theorem cr_setOfI (hc : X.calm = true) : CallR X (.type "set") (rSetOfI X.K X.w) := by
  intro pins s σ H vs us Q I r h
  obtain ⟨l, ns, rfl, hs, hn, q⟩ := h
  rw [Vals.ref1 r]
  have fin : ∀ (h' : Heap) (tk c : Nat), SetR X.w h' s.heap.objs.size (fun j => decide (j ∈ ns)) c → c ≤ ns.length → (∀ b o, s.heap.get? b = some o → h'.get? b = some o) → EP X pins σ Q (.ref s.heap.objs.size) { s with heap := h', toks := tk } := fun h' tk c R hc' k =>
    ⟨.ref s.heap.objs.size, _, I.laid (t' := tk) k (Nat.le_refl _) (setO_new R), rfl, q _ c (I.hok.fresh (Nat.le_refl _)) hc'⟩
  rcases hs with hs | hs
  · obtain ⟨its, rv, pl, hz⟩ := I.list hs
    exact set_of_ints (I.ok.hd hc) pl.isList (by simpa using rv.ints) (by unfold scanBound; omega) fin
  · obtain ⟨its, rv, pl, hz⟩ := I.tuple hs
    obtain ⟨o, e1, e2, n, e3⟩ := id pl
    exact call_set_tupI ns (I.ok.hd hc) ⟨o, e1, e2, n, e3⟩ (by simpa using rv.ints) (by unfold scanBound; omega) fin
end
/-! ### sorted of a set of tuples of ints -/
section
variable {prog : Program} {w : World} {A : Around} {E : Value → Shared → Prop} {s : Shared}
theorem tupA_ints {h : Heap} {k : List Int} {b : Addr} (x : IsT prog w h k b) (ne : k ≠ []) : SrtO.TupA h (fun _ => false) (.ref b) (k.map Sum.inl) := by
  obtain ⟨o, items, n, ho, hc, hd, hi⟩ := x
  have hi := ints_of_items hi
  have key : ∀ (i : Nat) (vs : List Value) (k : List Int), IntsAre vs k → PyProof.Rows.tupItems (fun _ => false) i vs = some (k.map Sum.inl) := fun i vs k hk => by
    induction hk generalizing i with
    | nil => rfl
    | cons n t hk ih =>
      show (if (false : Bool) = true then none else (PyProof.Rows.tupItems (fun _ => false) (i + 1) _).map _) = _
      rw [if_neg (by decide), ih]; rfl
  have k1 := key 0 _ _ hi
  cases k with
  | nil => exact absurd rfl ne
  | cons a k =>
    cases hv : items.toList with
    | nil => rw [hv] at hi; cases hi
    | cons f r =>
      refine ⟨b, o, items, n, f, rfl, ho, hc, hd, ?_, k1⟩
      rw [← Array.getElem?_toList, hv]; rfl
theorem sorted_setG {a : Addr} {L : List (Addr × List Int)} {es : Array (Int × Value)} {ep : Nat} {t : SetTable} {kf : Value → TK} {Q : Value → Shared → Prop} (R : SetTR prog w s.heap a L es ep t) (hh : A.handled = none) (hne : ∀ p ∈ L, p.2 ≠ [])
    (hk : ∀ p ∈ L, kf (.ref p.1) = p.2.map Sum.inl)
    (hQ : ∀ s' p (out : List Value) (c : Nat), (∀ b o, s.heap.get? b = some o → s'.heap.get? b = some o) → s'.gens = s.gens → s'.os = s.os → s.heap.objs.size ≤ p →
      s'.heap.get? p = some (seqObj "list" out.toArray c) → out.Perm (L.map fun q => Value.ref q.1) → SrtO.Srtd (fun u v => ltK (kf u) (kf v)) out → Q (.ref p) s') :
    wpAny (model prog w) A (PySem.call (.builtin "sorted") [.ref a]) Q E s := by
  have ⟨o, ho, hex, hd⟩ := R.ob
  refine Calls.call_function_entry kind_sorted plain_sorted entry_sorted (args_sorted1 _) ?_
  unfold Builtin.«sorted»
  refine wpAny_bind (m := checkCount "sorted" 1 1 _) (wpAny_pure ?_)
  have few := R.few
  have size := R.size
  refine wpAny_bind (collect_set (A := A.in1) hh ⟨o, ho, hex.1, hd⟩ R.fits (by unfold scanBound; omega) R.tab.ris R.led fun s1 vs k1 hz g1 o1 pm => ?_)
  have pm : vs.Perm (L.map fun q => Value.ref q.1) := by
    have e : es.toList.map (·.2) = L.map fun q => Value.ref q.1 := by
      rw [R.rows]; unfold rowsOf; rw [List.map_map]; rfl
    rw [← e]; exact pm
  have vl : vs.length ≤ sizeLine := by rw [pm.length_eq, List.length_map, sizeLine_eq]; omega
  refine wpAny_bind (wpAny_newList ?_ vl)
  have at1 : (s1.heap.push (seqObj "list" vs.toArray 0)).get? s1.heap.objs.size = some (seqObj "list" vs.toArray 0) := Heap.get?_push_size _ rfl
  have tup : ∀ v ∈ vs, SrtO.TupA (s1.heap.push (seqObj "list" vs.toArray 0)) (fun _ => false) v (kf v) := fun v hv => by
    obtain ⟨q, hq, rfl⟩ := List.mem_map.mp (pm.mem_iff.mp hv)
    rw [hk q hq]
    exact tupA_ints (isT_keep (R.tup q hq) fun b u e => Heap.get?_push_of_some _ (k1 b u e)) (hne q hq)
  refine wpAny_bind (wpAny_holding (wpAny_call_entry slot_list_sort ⟨_, at1, rfl⟩ entry_list_sort (SrtO.list_sort_ord (SrtO.swo_key kf) at1 vl (fun h2 => SrtO.tups_sortableO (by omega) tup fun o' e => ?_) fun out hs hb => ⟨_, rfl, ?_⟩) (args_list_sort _)))
  · have e : some o' = some (seqObj "list" vs.toArray 0) := e.symm.trans at1
    cases e
    intro c
    exact absurd (Value.type.inj c) (by decide)
  · obtain ⟨c, hc⟩ := sortedHeap_at (vs := vs) (out := out.toArray) at1
    refine wpAny_pure ⟨_, rfl, hQ _ s1.heap.objs.size out c (fun b u e => ?_) g1 o1 hz hc (hb.perm.trans pm) hs⟩
    have e1 := k1 b u e
    have lt := Heap.lt_size e1
    show (sortedHeap (s1.heap.push (seqObj "list" vs.toArray 0)) s1.heap.objs.size vs out.toArray).get? b = some u
    rw [sortedHeap_old (Nat.ne_of_lt lt) (by rw [size_push']; exact Nat.lt_succ_of_lt lt)]
    exact Heap.get?_push_of_some _ e1
end
section
variable {X : Cx}
/-- sorted of a set of tuples -/
def rSortedG (K : PySem.W.Frag) (P : Program) (w : World) : List V → Hp → VK → Prop := fun vs H Q => ∃ (a : Addr) (L : List (Addr × List Int)), vs = [V.ref a] ∧ H a = some (SetTO P w a L) ∧ (∀ p ∈ L, SqT K H p.1 (p.2.map V.int) ∧ p.2 ≠ []) ∧
  ∀ (L' : List (Addr × List Int)) (p : Addr), L'.Perm L → (L'.map (·.2)).Nodup → L'.Pairwise (fun q r => ltK (r.2.map Sum.inl) (q.2.map Sum.inl) = false) → H p = none → Q (.ref p) (upd H p (.lst (L'.map fun q => V.ref q.1)))
theorem perm_map_inv {α β : Type} {f : α → β} : ∀ {L : List α} {out : List β}, out.Perm (L.map f) → ∃ L' : List α, L'.Perm L ∧ out = L'.map f := by
  intro L out h
  induction out generalizing L with
  | nil =>
    have := h.length_eq
    rw [List.length_map] at this
    exact ⟨[], by rw [List.length_eq_zero_iff.mp this.symm], rfl⟩
  | cons b out ih =>
    obtain ⟨a, ha, rfl⟩ := List.mem_map.mp (h.mem_iff.mp List.mem_cons_self)
    obtain ⟨l1, l2, rfl⟩ := List.append_of_mem ha
    have h2 : (f a :: out).Perm (f a :: ((l1 ++ l2).map f)) := h.trans (by
      rw [List.map_append, List.map_append, List.map_cons]
      exact List.perm_middle)
    obtain ⟨L', p, rfl⟩ := ih h2.cons_inv
    exact ⟨a :: L', (p.cons a).trans List.perm_middle.symm, rfl⟩
theorem cr_sortedG (hc : X.calm = true) : CallR X (.builtin "sorted") (rSortedG X.K X.prog X.w) := by
  intro pins s σ H vs us Q I r h
  obtain ⟨a, L, rfl, ha, hk, q⟩ := h
  obtain ⟨es, ep, t, R⟩ := SetT0.full (I.hok a _ ha).1 fun p hp => I.isT (hk p hp).1
  rw [Vals.ref1 r]
  let kf : Value → TK := fun v => (PyProof.Rows.tupKey s.heap (fun _ => false) v).getD []
  have kk : ∀ p ∈ L, kf (.ref p.1) = p.2.map Sum.inl := fun p hp => by
    show (PyProof.Rows.tupKey s.heap (fun _ => false) (.ref p.1)).getD [] = _
    rw [(tupA_ints (I.isT (hk p hp).1) (hk p hp).2).key]; rfl
  refine sorted_setG (kf := kf) R (I.ok.hd hc) (fun p hp => (hk p hp).2) kk fun s' p out c k g o hp hg pm sr => ?_
  obtain ⟨L', pL, rfl⟩ := perm_map_inv pm
  have few := R.few
  have hlen : (L'.map fun q => V.ref q.1).length ≤ sizeLine := by rw [List.length_map, pL.length_eq, sizeLine_eq]; omega
  have hn : H p = none := I.hok.fresh hp
  have J : Inv X pins σ (upd H p (.lst (L'.map fun q => V.ref q.1))) { s with heap := s'.heap, gens := s'.gens, drawn := s'.drawn, toks := s'.toks } :=
    I.call (ch := []) (Un.laid k hp hn) (I.hok.laid k hp ⟨hlen, _, c, vals_of_refs L', hg⟩) (by rw [g]; exact I.bare) (fun _ z => nomatch z)
  have e : s' = { s with heap := s'.heap, gens := s'.gens, drawn := s'.drawn, toks := s'.toks } := by
    obtain ⟨b1, b2, b3, b4, b5⟩ := s'
    have o : b5 = s.os := o
    subst o; rfl
  rw [e]
  refine ⟨.ref p, _, J, rfl, q L' p pL ((pL.map (·.2)).nodup_iff.mpr R.nd) ?_ hn⟩
  refine List.Pairwise.imp_of_mem (fun {u v} hu hv huv => ?_) (List.pairwise_map.mp sr)
  have huv : ltK (kf (.ref v.1)) (kf (.ref u.1)) = false := huv
  rw [kk v (pL.mem_iff.mp hv), kk u (pL.mem_iff.mp hu)] at huv
  exact huv
end
/-! ### l.remove(x), by data -/
section
variable {X : Cx}
def rRemD (K : PySem.W.Frag) : V → List V → Hp → VK → Prop := fun x xs H Q => ∃ (a : Addr) (vs : List V) (y : V) (d : PyData) (ds : List PyData) (j : Nat) (z : PyData), x = V.ref a ∧ xs = [y] ∧ H a = some (.lst vs) ∧ DpAll K H vs ds ∧ Dp K H y d ∧
  SeqAt.shaped (.list ds) = true ∧ SeqAt.shaped d = true ∧ ds[j]? = some z ∧ PyData.eqv z d = true ∧ (∀ (m : Nat) (z' : PyData), m < j → ds[m]? = some z' → PyData.eqv z' d = false) ∧ Q .non (upd H a (.lst (vs.eraseIdx j)))
theorem mt_removeD (hu : X.A.units + 65 < cLine) : MtM X "list.remove" (rRemD X.K) := by
  intro pins s σ H x xs v us Q I rx rxs h
  obtain ⟨a, vs, y, d, ds, j, z, rfl, rfl, hH, da, dy, sl, sd, hz, hzj, hno, q⟩ := h
  cases rx
  obtain ⟨u, rfl, ru⟩ := rxs.one
  obtain ⟨len, its, n, rv, hl, ho⟩ := I.lstM hH
  obtain ⟨bs, r1⟩ := Dp.reads I d y u dy ru
  have cl : PyData.canLayAll0 ds = true := SeqAt.canLay_of_shaped sl
  obtain ⟨as, r4⟩ := Dp.readsAll I ds _ its da rv
  have dl : its.length = ds.length := SeqAt.ReadsAll.length ds its as r4
  have mp : its.map (SeqAt.readOf s.heap) = ds := SeqAt.readsAll_map ds its as cl r4
  have at' : ∀ (m : Nat) (hm : m < its.toArray.size) (z' : PyData), ds[m]? = some z' → SeqAt.readOf s.heap its.toArray[m] = z' := fun m hm z' e => by
    have hm' : m < its.length := by simpa using hm
    rw [← mp, List.getElem?_map, List.getElem?_eq_getElem hm'] at e
    simpa using Option.some.inj e
  have jd : j < ds.length := (List.getElem?_eq_some_iff.mp hz).1
  have jl : j < its.toArray.size := by rw [List.size_toArray]; omega
  refine call_meets PySem.F.slot_list_remove ⟨_, ho, rfl⟩ PySem.F.entry_list_remove (PySem.F.args_list_remove_2 _ _)
    (SeqAt.list_removeAt a its.toArray n none #[] u (fun b => PyData.eqv (SeqAt.readOf s.heap b) d) j jl ?_ (fun m hm hmj => ?_) (by rw [List.size_toArray]; omega)) ⟨ho, SeqAt.items_eqAt (vs := its.toArray) (show ReadsAll s.heap its.toArray.toList ds as from r4) r1 cl (SeqAt.canLay_of_shaped sd) (room_in_shaped sd hu), ?_⟩
  · show PyData.eqv (SeqAt.readOf s.heap its.toArray[j]) d = true
    rw [at' j jl z hz]; exact hzj
  · have e : ds[m]? = some (ds[m]'(by rw [List.size_toArray] at hm; omega)) := List.getElem?_eq_getElem _
    show PyData.eqv (SeqAt.readOf s.heap its.toArray[m]) d = false
    rw [at' m hm _ e]
    exact hno m _ hmj e
  · refine ⟨.non, _, I.lset (its' := its.eraseIdx j) (t' := s.toks) hH ho ?_ (rv.eraseIdx j) ?_, rfl, q⟩
    · show its.toArray.eraseIdxIfInBounds j = (its.eraseIdx j).toArray
      rw [List.eraseIdxIfInBounds_toArray]
    · exact Nat.le_trans (List.length_eraseIdx_le ..) len
end
end L2.Pu
namespace L2.Pu
open PySem PySem.Spec PyProof.Rows
/-! ### list(reversed(a list)) -/
section
variable {prog : Program} {w : World} {A : Around} {E : Value → Shared → Prop} {s : Shared}
theorem list_of_rev {it l : Addr} {items : Array Value} {Q : Value → Shared → Prop} (hh : A.handled = none) (hit : s.heap.IsRevIter it l ((items.size : Int) - 1)) (hl : s.heap.IsList l items) (hne : l ≠ it) (hn : items.size ≤ sizeLine)
    (hQ : ∀ (h' : Heap) (tk c : Nat) (acc : Array Value), (∀ b o, b ≠ it → s.heap.get? b = some o → h'.get? b = some o) → h'.get? s.heap.objs.size = some { cls := .type "list", dict := none, data := .seq acc c, slots := #[] } →
      ItemsOf (fun i v => items[items.size - 1 - i]? = some v) acc items.size → Q (.ref s.heap.objs.size) { s with heap := h', toks := tk }) :
    wpAny (model prog w) A (PySem.call (.type "list") [.ref it]) Q E s := by
  refine callType_codes (Q₁ := fun o s₁ => o = .ref s.heap.objs.size ∧ s₁ = { s with heap := s.heap.push { cls := .type "list", data := .seq #[] } }) F.called_list (F.typeCall_list_1 _) F.entry_list_init (code_list_new _ ⟨rfl, rfl⟩) fun o s₁ e => ?_
  obtain ⟨rfl, rfl⟩ := e
  have W := (Walks.listRev (prog := prog) (w := w) (A := A.in1.in1) hh it l hne items).toS
  have li : it < s.heap.objs.size := by
    obtain ⟨o, e, _⟩ := hit
    exact Heap.lt_size e
  have ll : l < s.heap.objs.size := by
    obtain ⟨o, e, _⟩ := hl
    exact Heap.lt_size e
  have g0 : (s.heap.push { cls := .type "list", data := .seq #[] }).get? s.heap.objs.size = some { cls := .type "list", data := .seq #[] } := Heap.get?_push_size _ rfl
  refine ⟨⟨_, g0, rfl⟩, F.args_list_init_2 _ _, ?_⟩
  show wpAny _ _ (do let old ← Builtin.List.listItems (.ref s.heap.objs.size); Builtin.List.listUpdate (.ref s.heap.objs.size) (fun _ => #[]); letGo old.toList.reverse; Builtin.List.listExtendWith (.ref s.heap.objs.size) (.ref it) .none) _ _ _
  refine wpAny_bind ?_
  unfold Builtin.List.listItems
  refine wpAny_bind (wpAny_seqItems g0 rfl (wpAny_pure ?_))
  refine wpAny_bind (wpAny_updateSeq (f := fun _ => (#[] : Array Value)) g0 rfl ?_)
  have g1 := Heap.get?_update_self (Obj.mapSeq (fun _ => (#[] : Array Value))) g0 rfl
  have old : ∀ b o, s.heap.get? b = some o → ((s.heap.push { cls := .type "list", data := .seq #[] }).update s.heap.objs.size (Obj.mapSeq (fun _ => (#[] : Array Value)))).get? b = some o := fun b o e =>
    (Heap.get?_update_other _ _ (Nat.ne_of_gt (Heap.lt_size e))).trans (Heap.get?_push_of_some _ e)
  refine wpAny_bind (wpAny_letGo ?_)
  generalize hH1 : (s.heap.push { cls := .type "list", data := .seq #[] }).update s.heap.objs.size (Obj.mapSeq (fun _ => (#[] : Array Value))) = H1 at *
  have it1 : H1.IsRevIter it l ((items.size : Int) - 1) := hit.at fun o e => old _ _ e
  have l1 : H1.IsList l items := by
    obtain ⟨o, e, r⟩ := hl
    exact ⟨o, old _ _ e, r⟩
  have T : Shared.TypeIs { s with heap := H1 } (.ref it) "list_reverseiterator" := Heap.IsRevIter.typeIs (s := { s with heap := H1 }) it1
  have ne : Builtin.List.listSameRef (.ref s.heap.objs.size) (.ref it) = false := by simp [Builtin.List.listSameRef, Nat.ne_of_gt li]
  unfold Builtin.List.listExtendWith
  refine wpAny_bind (wpAny_typeOf T ?_)
  rw [if_neg (by rw [ne]; decide)]
  refine wpAny_bind (wpAny_pyIter_revIter (s := { s with heap := H1 }) it1 ?_)
  refine wpAny_bind (wpAny_holding ?_)
  unfold Builtin.List.listLengthHint
  refine wpAny_bind (wpAny_specialOf T RT.nolen_lri ?_)
  show wpAny _ _ (specialOf (Value.ref it) (Str.ofString "__length_hint__") >>= _) _ _ _
  refine wpAny_bind (wpAny_specialOf T RT.hint_lri ?_)
  generalize hid : ("list_reverseiterator.__length_hint__" : String) = id0
  wp_delta
  rw [show splitId id0 = some ("list_reverseiterator", "__length_hint__") from by subst hid; decide +kernel]
  subst hid
  refine wpAny_bind (wpAny_isInstance (b := true) T (by rw [isSubtype_type]; kernel_rfl) ?_)
  refine wpAny_pure ?_
  rw [if_neg (by decide)]
  have e0 : ((items.size : Nat) : Int) - 1 - ((0 : Nat) : Int) = (items.size : Int) - 1 := by omega
  refine wpAny_pure ⟨plainId_quiet F.plain_extend_loop _, codeAny_extend_loopS W hn s.heap.objs.size (by simp only [List.mem_cons, List.not_mem_nil, or_false, not_or]; exact ⟨Nat.ne_of_gt li, Nat.ne_of_gt ll⟩) .none items.size 0 _ #[] _ rfl (Nat.zero_le _) ⟨Nat.zero_le _, by rw [e0]; exact it1, l1⟩ g1 (ItemsOf.nil _) fun s' acc' c' m at' hi => ?_⟩
  rw [Moved.eq_with m]
  refine ⟨rfl, hQ s'.heap s'.toks c' acc' (fun b o hb e => m.heap b o (fun z => ?_) (old _ _ e)) at' hi⟩
  rcases List.mem_cons.mp z with z | z
  · exact absurd (Heap.lt_size e) (by rw [z]; exact Nat.lt_irrefl _)
  · exact hb (List.mem_singleton.mp z)
end
section
variable {X : Cx}
def tLRev (K : PySem.W.Frag) (te : TE) : TE := fun σ H Q => te σ H fun v H1 => ∃ (a : Addr) (xs : List V), v = .ref a ∧ SqL K H1 a xs ∧ ∀ q, H1 q = none → Q (.ref q) (upd H1 q (.lst xs.reverse))
theorem pe_lrev {e : Expr} {te : TE} {p p2 pos pos2 : Pos} (hc : X.calm = true) (hg : Gl X "list") (hm : X.mg "list" = none) (hg2 : Gl X "reversed") (hm2 : X.mg "reversed" = none) (he : PE X e te)
    (hs : starEach [e] X.env = (false, eval e X.env) :: starEach [] X.env) :
    PE X (.Call (.Name "list" p) [.Call (.Name "reversed" p2) [e] [] pos2] [] pos) (tLRev X.K te) := by
  refine ⟨fun pins s σ H Q I h => ?_⟩
  refine Call_ (ld_blt I hg hm boot_list (PyProof.Rows.callWith_type1 (args_cons (Call_ (ld_blt I hg2 hm2 PyProof.Rows.boot_reversed (PyProof.Rows.callWith_type1 (args_cons (thn (he.run pins s σ H _ I h) fun u s1 ⟨v, H1, I1, r1, q1⟩ => args_nil ?_) hs) hs rfl))) rfl) rfl rfl))
  obtain ⟨a, xs, rfl, hq, q⟩ := q1
  cases r1
  obtain ⟨its, rv, pl, hz⟩ := I1.list hq
  refine call_reversed_list pl.isList (args_nil ?_)
  have hl := pl.isList
  obtain ⟨ol, hol, _⟩ := id hl
  have sz : its.toArray.size ≤ sizeLine := by rw [List.size_toArray, ← rv.length]; exact hz
  refine list_of_rev (s := { s1 with heap := s1.heap.push (revObj a ((its.toArray.size : Int) - 1)) }) (I1.ok.hd hc) ⟨_, Heap.get?_push_size _ rfl, rfl, rfl⟩ (hl.push _) (Nat.ne_of_lt (Heap.lt_size hol)) sz fun h' tk c acc k g i => ?_
  have hv := RT.vals_rev rv i
  have S1 : (s1.heap.push (revObj a ((its.toArray.size : Int) - 1))).objs.size = s1.heap.objs.size + 1 := Heap.size_push ..
  have fr : H1 (s1.heap.objs.size + 1) = none := I1.hok.fresh (Nat.le_succ _)
  rw [S1] at g ⊢
  refine ⟨.ref (s1.heap.objs.size + 1), _, I1.laid (t' := tk) (fun b o e => k b o (Nat.ne_of_lt (Heap.lt_size e)) (Heap.get?_push_of_some _ e)) (Nat.le_succ _) (show ObjOk X.prog X.w _ _ _ (.lst xs.reverse) from ⟨by rw [List.length_reverse]; exact hz, acc.toList, c, hv, ?_⟩), rfl, q _ fr⟩
  rw [Array.toArray_toList]
  exact g
end
end L2.Pu
namespace L2.Pu
open PySem PySem.Spec PyProof.Rows
/-! ### each once, rising -/
section
variable {α : Type} {lt : α → α → Bool}
structure Strict (lt : α → α → Bool) : Prop where
  irr : ∀ a, lt a a = false
  tr : ∀ a b c, lt a b = true → lt b c = true → lt a c = true
  tri : ∀ a b, lt a b = false → lt b a = false → a = b
theorem insU_mem (S : Strict lt) (x z : α) : ∀ l : List α, z ∈ insU lt x l ↔ z = x ∨ z ∈ l
  | [] => by unfold insU; simp
  | y :: l => by
    unfold insU
    by_cases h : lt x y = true
    · rw [if_pos h]; simp
    · rw [if_neg h]
      by_cases g : lt y x = true
      · rw [if_pos g, List.mem_cons, insU_mem S x z l, List.mem_cons]
        constructor
        · rintro (h | h | h)
          · exact .inr (.inl h)
          · exact .inl h
          · exact .inr (.inr h)
        · rintro (h | h | h)
          · exact .inr (.inl h)
          · exact .inl h
          · exact .inr (.inr h)
      · rw [if_neg g]
        have e := S.tri x y (by simpa using h) (by simpa using g)
        subst e
        rw [List.mem_cons]
        constructor
        · intro h; exact .inr h
        · rintro (h | h)
          · exact .inl h
          · exact h
theorem insU_up (S : Strict lt) (x : α) : ∀ {l : List α}, l.Pairwise (fun a b => lt a b = true) → (insU lt x l).Pairwise (fun a b => lt a b = true)
  | [], _ => by unfold insU; exact List.pairwise_singleton _ _
  | y :: l, h => by
    have h' := List.pairwise_cons.mp h
    unfold insU
    by_cases c : lt x y = true
    · rw [if_pos c]
      refine List.pairwise_cons.mpr ⟨fun z hz => ?_, h⟩
      rcases List.mem_cons.mp hz with rfl | hz
      · exact c
      · exact S.tr _ _ _ c (h'.1 z hz)
    · rw [if_neg c]
      by_cases g : lt y x = true
      · rw [if_pos g]
        refine List.pairwise_cons.mpr ⟨fun z hz => ?_, insU_up S x h'.2⟩
        rcases (insU_mem S x z l).mp hz with rfl | hz
        · exact g
        · exact h'.1 z hz
      · rw [if_neg g]; exact h
theorem ssetG_mem (S : Strict lt) (z : α) : ∀ l : List α, z ∈ ssetG lt l ↔ z ∈ l
  | [] => Iff.rfl
  | x :: l => by
    show z ∈ insU lt x (ssetG lt l) ↔ _
    rw [insU_mem S, ssetG_mem S z l, List.mem_cons]
theorem ssetG_up (S : Strict lt) : ∀ l : List α, (ssetG lt l).Pairwise (fun a b => lt a b = true)
  | [] => .nil
  | x :: l => insU_up S x (ssetG_up S l)
theorem strict_one (S : Strict lt) : ∀ {l m : List α}, l.Pairwise (fun a b => lt a b = true) → m.Pairwise (fun a b => lt a b = true) → (∀ z, z ∈ l ↔ z ∈ m) → l = m
  | [], m, _, _, e => by
    cases m with
    | nil => rfl
    | cons b m => exact absurd ((e b).mpr List.mem_cons_self) List.not_mem_nil
  | a :: l, m, h, g, e => by
    cases m with
    | nil => exact absurd ((e a).mp List.mem_cons_self) List.not_mem_nil
    | cons b m =>
      have h' := List.pairwise_cons.mp h
      have g' := List.pairwise_cons.mp g
      have ab : a = b := by
        rcases List.mem_cons.mp ((e a).mp List.mem_cons_self) with q | q
        · exact q
        · rcases List.mem_cons.mp ((e b).mpr List.mem_cons_self) with q2 | q2
          · exact q2.symm
          · have := S.tr _ _ _ (g'.1 a q) (h'.1 b q2)
            rw [S.irr] at this; cases this
      subst ab
      rw [strict_one S h'.2 g'.2 fun z => ?_]
      constructor
      · intro hz
        rcases List.mem_cons.mp ((e z).mp (List.mem_cons_of_mem _ hz)) with rfl | q
        · have := h'.1 z hz
          rw [S.irr] at this; cases this
        · exact q
      · intro hz
        rcases List.mem_cons.mp ((e z).mpr (List.mem_cons_of_mem _ hz)) with rfl | q
        · have := g'.1 z hz
          rw [S.irr] at this; cases this
        · exact q
theorem sset_one (S : Strict lt) {l m : List α} (h : m.Pairwise (fun a b => lt a b = true)) (e : ∀ z, z ∈ m ↔ z ∈ l) : m = ssetG lt l :=
  strict_one S h (ssetG_up S l) fun z => (e z).trans (ssetG_mem S z l).symm
end
theorem strict_ltI : Strict ltI where
  irr := fun a => decide_eq_false (Int.lt_irrefl a)
  tr := fun a b c h g => decide_eq_true (Int.lt_trans (of_decide_eq_true h) (of_decide_eq_true g))
  tri := fun a b h g => by
    have h := of_decide_eq_false h
    have g := of_decide_eq_false g
    omega
theorem ltL_tri : ∀ a b : List Int, ltL a b = false → ltL b a = false → a = b
  | [], [], _, _ => rfl
  | [], _ :: _, h, _ => by cases h
  | _ :: _, [], _, g => by cases g
  | x :: a, y :: b, h, g => by
    have h : (decide (x < y) || (!decide (y < x) && ltL a b)) = false := h
    have g : (decide (y < x) || (!decide (x < y) && ltL b a)) = false := g
    rw [Bool.or_eq_false_iff] at h g
    have h1 := of_decide_eq_false h.1
    have g1 := of_decide_eq_false g.1
    have e : x = y := by omega
    subst e
    have h2 := h.2
    have g2 := g.2
    rw [g.1, Bool.not_false, Bool.true_and] at h2
    rw [h.1, Bool.not_false, Bool.true_and] at g2
    rw [ltL_tri a b h2 g2]
theorem strict_ltL : Strict ltL where
  irr := fun a => PyProof.Rows.lex_irrefl (O := PyProof.Rows.itemOrd) _
  tr := fun a b c h g => PyProof.Rows.lex_trans (O := PyProof.Rows.itemOrd) _ _ _ h g
  tri := ltL_tri
theorem tqT_grow {K : PySem.W.Frag} {H H' : Hp} {a : Addr} {xs : List V} (e : Same H H') (h : TqT K H a xs) : TqT K H' a xs := by
  rcases h with q | q
  · exact .inl (e _ _ q)
  · exact .inr q
/-! ### sorted(set(x)) -/
section
variable {K : PySem.W.Frag} {G : Addr → Prop} {H : Hp}
theorem reps_intsQ : ∀ l : List Int, Reps K G H (l.map .int) (l.map V.int)
  | [] => by show Reps K G H [] []; unfold Reps; trivial
  | i :: l => by
    show Reps K G H (.int i :: l.map .int) (.int i :: l.map V.int)
    unfold Reps
    exact ⟨rep_int, reps_intsQ l⟩
theorem rows_ok : ∀ {xs : List PyData} {vs : List V} {rs : List (List Int)}, rowsP xs = some rs → Reps K G H xs vs → ∃ ks : List (Addr × List Int), vs = ks.map (fun p => V.ref p.1) ∧ ks.map (·.2) = rs ∧ ∀ p ∈ ks, TqT K H p.1 (p.2.map V.int)
  | [], [], rs, e, _ => by cases e; exact ⟨[], rfl, rfl, fun p h => by cases h⟩
  | p :: ps, v :: vs, rs, e, h => by
    unfold Reps at h
    unfold rowsP at e
    cases e1 : rowP p with
    | none => rw [e1] at e; cases e
    | some r =>
      rw [e1] at e
      cases e2 : rowsP ps with
      | none => rw [e2] at e; cases e
      | some rs' =>
        rw [e2] at e
        cases e
        obtain ⟨ks, f1, f2, f3⟩ := rows_ok e2 h.2
        cases p with
        | tuple qs =>
          have h1 := h.1
          unfold Rep at h1
          obtain ⟨a, ws, rfl, sq, rr⟩ := h1
          obtain ⟨rfl, rfl⟩ := ints_ok (show intsP qs = some r from e1) rr
          refine ⟨(a, r) :: ks, by rw [f1]; rfl, by rw [List.map_cons, f2], fun q hq => ?_⟩
          rcases List.mem_cons.mp hq with rfl | hq
          · exact sq
          · exact f3 q hq
        | _ => cases e1
  | [], _ :: _, _, _, h => by unfold Reps at h; exact h.elim
  | _ :: _, [], _, _, h => by unfold Reps at h; exact h.elim
theorem reps_tups : ∀ {L : List (Addr × List Int)}, (∀ p ∈ L, TqT K H p.1 (p.2.map V.int)) → Reps K G H ((L.map (·.2)).map tupI) (L.map fun p => V.ref p.1)
  | [], _ => by show Reps K G H [] []; unfold Reps; trivial
  | p :: L, h => by
    show Reps K G H (tupI p.2 :: (L.map (·.2)).map tupI) (.ref p.1 :: L.map fun p => V.ref p.1)
    unfold Reps
    refine ⟨?_, reps_tups fun q hq => h q (List.mem_cons_of_mem _ hq)⟩
    unfold tupI Rep
    exact ⟨p.1, _, rfl, h p List.mem_cons_self, reps_intsQ _⟩
end
theorem or_call {X : Cx} {f : Value} {r r' : List V → Hp → VK → Prop} (h : CallR X f r) (h' : CallR X f r') : CallR X f (fun vs H Q => r vs H Q ∨ r' vs H Q) := fun pins s σ H vs us Q I rv q => q.elim (h pins s σ H vs us Q I rv) (h' pins s σ H vs us Q I rv)
section
variable {T : Tb} {fr : Bool} {x y : Str} {pos p2 p apos : Pos} {a b e : Expr} {ia ie : E}
theorem se_sset {p3 p4 : Pos} (hcm : T.cm = true) (hg : gloB T.scope "sorted" = true) (hb : ("sorted" : Str) ∈ T.blts) (hg2 : gloB T.scope "set" = true) (hb2 : ("set" : Str) ∈ T.blts) (ha : SE T a ia) : SE T (.Call (.Name "sorted" p3) [.Call (.Name "set" p4) [a] [] p2] [] pos) (.sset ia) := by
  refine ⟨rfl, fun Y W Φ X ok => ?_⟩
  have hc := ok.calm hcm
  have ha' := pa_cons (ha.2 Y W Φ X ok) pa_nil (plainE_star ha.1 _ _)
  refine PE.imp (pe_callB (or_call (cr_sortedSet hc) (cr_sortedG hc)) (gloB_ok ok hg) (ok.blt _ hb) (by decide +kernel) (pa_cons (pe_callTy (or_call (cr_setOfI hc) (cr_setOfT hc ok.units)) (gloB_ok ok hg2) (ok.blt _ hb2) (by decide +kernel) ha' (he := plainE_star ha.1 _ _)) pa_nil)) fun σ H Q ⟨ρ, F, H0, er, h⟩ => ?_
  unfold evE at h
  refine ⟨ρ, F, H0, er, (RP.bind h).mono fun z hz v1 H1 s1 r1 i1 => ?_⟩
  have er1 := er.grow s1
  have fin : ∀ (ns : List Int), ns.length < 64 → (∀ v H', Same H H' → RepR X.K (FX F (lk (.sset ia)) σ ρ) H H' true (.list ((ssetG ltI ns).map .int)) v → RepI X.K (FX F (lkI (.sset ia)) σ ρ) H' (.list ((ssetG ltI ns).map .int)) v → Q v H') →
      ∀ a c, H1 a = none → c ≤ ns.length → rSortedSet X.w [.ref a] (upd H1 a (SetO X.w a (fun j => decide (j ∈ ns)) c)) Q := fun ns hl q a c hn hc' => by
    refine ⟨a, _, c, rfl, upd_same, by omega, fun ms p hp hm _ hf => ?_⟩
    have e : ms = ssetG ltI ns := sset_one strict_ltI (hp.imp fun h => decide_eq_true h) fun k => (hm k).trans (by simp)
    subst e
    have sm := s1.trans (upd_same_grow (o := SetO X.w a (fun j => decide (j ∈ ns)) c) hn)
    have R := new_list (K := X.K) (G := FX F [] σ ρ) hf ((er.grow sm).ftX []) (reps_intsQ (K := X.K) (ssetG ltI ns))
    exact q (.ref p) _ (sm.trans (upd_same_grow hf)) (R.sub (fun _ z => z) sm) (.of R.1)
  cases z with
  | list xs =>
    obtain ⟨ad, vs, rfl, sq, rr⟩ := i1
    have hz : RP W (match intsP xs with
      | some ns => guardR (decide (ns.length < 64)) (.ok (PyData.list ((ssetG ltI ns).map .int)))
      | none => (match rowsP xs with
        | some rs => guardR (decide (rs.length < 64) && rs.all fun r => !r.isEmpty) (.ok (PyData.list ((ssetG ltL rs).map tupI)))
        | none => .bad)) _ := hz
    cases e : intsP xs with
    | some ns =>
      rw [e] at hz
      obtain ⟨c, hz⟩ := RP.guard hz
      obtain ⟨rfl, _⟩ := ints_ok e rr
      exact .inl ⟨ad, ns, rfl, .inl sq, of_decide_eq_true c, fun a c' hn hc' => .inl (fin ns (of_decide_eq_true c) hz a c' hn hc')⟩
    | none =>
      rw [e] at hz
      cases e2 : rowsP xs with
      | none => rw [e2] at hz; exact hz.elim
      | some rs =>
        rw [e2] at hz
        obtain ⟨c, hz⟩ := RP.guard hz
        rw [Bool.and_eq_true] at c
        obtain ⟨ks, rfl, rfl, f3⟩ := rows_ok e2 rr
        have c1 := of_decide_eq_true c.1
        rw [List.length_map] at c1
        refine .inr ⟨ad, ks, rfl, sq, fun q hq => (f3 q hq).sq, c1, fun a L hn sub all => .inr ⟨a, L, rfl, upd_same, fun q hq => ⟨(tqT_grow (upd_same_grow hn) (f3 q (sub q hq))).sq, fun e0 => ?_⟩, fun L' p pm nd up hf => ?_⟩⟩
        · have := List.all_eq_true.mp c.2 q.2 (List.mem_map.mpr ⟨q, sub q hq, rfl⟩)
          rw [e0] at this; cases this
        · have sm := s1.trans (upd_same_grow (o := SetTO X.prog X.w a L) hn)
          have ek : L'.map (·.2) = ssetG ltL (ks.map (·.2)) := by
            refine sset_one strict_ltL ?_ fun z => ?_
            · refine List.pairwise_map.mpr (List.Pairwise.imp_of_mem (fun {q r} _ _ h => ?_) ((List.pairwise_map.mp nd).and up))
              cases g : ltL q.2 r.2 with
              | true => rfl
              | false => exact absurd (ltL_tri q.2 r.2 g h.2) h.1
            · constructor
              · intro hz
                obtain ⟨q, hq, rfl⟩ := List.mem_map.mp hz
                exact List.mem_map.mpr ⟨q, sub q (pm.mem_iff.mp hq), rfl⟩
              · intro hz
                obtain ⟨q, hq, rfl⟩ := List.mem_map.mp hz
                obtain ⟨r, hr, er⟩ := List.mem_map.mp (all q hq)
                exact List.mem_map.mpr ⟨r, pm.mem_iff.mpr hr, er⟩
          have R := new_list (K := X.K) (G := FX F [] σ ρ) hf ((er.grow sm).ftX []) (reps_tups (K := X.K) (L := L') fun q hq => tqT_grow (upd_same_grow hn) (f3 q (sub q (pm.mem_iff.mp hq))))
          rw [ek] at R
          exact hz (.ref p) _ (sm.trans (upd_same_grow hf)) (R.sub (fun _ z => z) sm) (.of R.1)
  | tuple xs =>
    unfold RepI Rep at i1
    obtain ⟨ad, vs, rfl, sq, rr⟩ := i1
    have hz : RP W (match intsP xs with
      | some ns => guardR (decide (ns.length < 64)) (.ok (PyData.list ((ssetG ltI ns).map .int)))
      | none => .bad) _ := hz
    cases e : intsP xs with
    | some ns =>
      rw [e] at hz
      obtain ⟨c, hz⟩ := RP.guard hz
      obtain ⟨rfl, _⟩ := ints_ok e rr
      exact .inl ⟨ad, ns, rfl, .inr sq.sq, of_decide_eq_true c, fun a c' hn hc' => .inl (fin ns (of_decide_eq_true c) hz a c' hn hc')⟩
    | none => rw [e] at hz; exact hz.elim
  | _ => exact False.elim hz
theorem reps_rev {K : PySem.W.Frag} {G : Addr → Prop} {H : Hp} : ∀ {xs : List PyData} {vs : List V}, Reps K G H xs vs → Reps K G H xs.reverse vs.reverse
  | [], [], h => h
  | p :: ps, v :: vs, h => by
    unfold Reps at h
    rw [List.reverse_cons, List.reverse_cons]
    refine Reps.append (reps_rev h.2) ?_
    show Reps K G H [p] [v]
    unfold Reps
    exact ⟨h.1, by unfold Reps; trivial⟩
  | [], _ :: _, h => by unfold Reps at h; exact h.elim
  | _ :: _, [], h => by unfold Reps at h; exact h.elim
theorem se_lrev {p3 p4 : Pos} (hcm : T.cm = true) (hg : gloB T.scope "list" = true) (hb : ("list" : Str) ∈ T.blts) (hg2 : gloB T.scope "reversed" = true) (hb2 : ("reversed" : Str) ∈ T.blts) (ha : SE T a ia) : SE T (.Call (.Name "list" p3) [.Call (.Name "reversed" p4) [a] [] p2] [] pos) (.lrev ia) := by
  refine ⟨rfl, fun Y W Φ X ok => PE.imp (pe_lrev (ok.calm hcm) (gloB_ok ok hg) (ok.blt _ hb) (gloB_ok ok hg2) (ok.blt _ hb2) (ha.2 Y W Φ X ok) (plainE_star ha.1 _ _)) fun σ H Q ⟨ρ, F, H0, er, h⟩ => ?_⟩
  unfold evE at h
  refine ⟨ρ, F, H0, er, (RP.bind h).mono fun z hz v1 H1 s1 r1 i1 => ?_⟩
  cases z with
  | list xs =>
    obtain ⟨ad, vs, rfl, sq, rr⟩ := i1
    refine ⟨ad, vs, rfl, sq, fun q hq => ?_⟩
    have R := new_list hq ((er.grow s1).ftX (lkI ia)) (reps_rev rr)
    exact hz (.ref q) _ (s1.trans (upd_same_grow hq)) (R.sub (fun _ z => z) s1) (.of R.1)
  | _ => exact False.elim hz
/-! ### x = y, the list handed over -/
theorem EnvRep.move {K : KB} {F : Addr → Prop} {H0 H : Hp} {σ : L2.St} {ρ : PEnv} (E : EnvRep K F H0 H σ ρ) {i j : Nat} {p : PyData} {ad : Addr} (e1 : ρ[i]? = some (some (true, p))) (e2 : σ[i]? = some (some (.ref ad))) :
    EnvRep K F H0 H (σ.set j (some (.ref ad))) ((ρ.set i none).set j (some (true, p))) := by
  have back : ∀ {k : Nat} {b : Bool} {q : PyData}, k ≠ j → ((ρ.set i none).set j (some (true, p)))[k]? = some (some (b, q)) → k ≠ i ∧ ρ[k]? = some (some (b, q)) := fun {k b q} nj h => by
    rw [set_other (Ne.symm nj)] at h
    rcases set_get h with ⟨_, e⟩ | ⟨ne, e⟩
    · cases e
    · exact ⟨Ne.symm ne, e⟩
  have sub : ∀ b, FX F [] (σ.set j (some (.ref ad))) ((ρ.set i none).set j (some (true, p))) b → FX F [] σ ρ b := fun b z => by
    rcases z with z | ⟨k, q, hk, f1, f2⟩
    · exact .inl z
    · by_cases kj : k = j
      · subst kj
        rcases set_get f2 with ⟨_, e⟩ | ⟨ne, _⟩
        · cases e; exact .inr ⟨i, p, by simp, e1, e2⟩
        · exact absurd rfl ne
      · obtain ⟨_, g⟩ := back kj f1
        rw [set_other (Ne.symm kj)] at f2
        exact .inr ⟨k, q, hk, g, f2⟩
  refine ⟨by rw [List.length_set, List.length_set, List.length_set]; exact E.len, fun k q e => ?_, fun k q e => ?_, fun k l q q' b f1 f2 f3 f4 => ?_, E.same, E.ft, E.bs⟩
  · have kj : k ≠ j := fun z => by
      subst z
      rcases set_get e with ⟨_, z⟩ | ⟨ne, _⟩
      · cases z
      · exact ne rfl
    obtain ⟨_, g⟩ := back kj e
    obtain ⟨v, g1, r⟩ := E.val k q g
    exact ⟨v, by rw [set_other (Ne.symm kj)]; exact g1, Rep.sub sub _ _ r⟩
  · by_cases kj : k = j
    · subst kj
      have hl := get_lt e
      rw [List.length_set, List.length_set] at hl
      rcases set_get e with ⟨_, z⟩ | ⟨ne, _⟩
      · cases z
        obtain ⟨a', g1, g3, g4, r⟩ := E.ow i p e1
        rw [e2] at g1
        cases g1
        exact ⟨ad, by rw [List.getElem?_set_self (by rw [E.len]; exact hl)], g3, g4, r.sub sub⟩
      · exact absurd rfl ne
    · obtain ⟨_, g⟩ := back kj e
      obtain ⟨a', g1, g3, g4, r⟩ := E.ow k q g
      exact ⟨a', by rw [set_other (Ne.symm kj)]; exact g1, g3, g4, r.sub sub⟩
  · by_cases kj : k = j
    · by_cases lj : l = j
      · rw [kj, lj]
      · obtain ⟨li, g⟩ := back lj f2
        subst kj
        rcases set_get f3 with ⟨_, z⟩ | ⟨ne, _⟩
        · cases z
          rw [set_other (Ne.symm lj)] at f4
          exact absurd (E.inj l i q' p ad g e1 f4 e2) li
        · exact absurd rfl ne
    · obtain ⟨ki, g⟩ := back kj f1
      by_cases lj : l = j
      · subst lj
        rcases set_get f4 with ⟨_, z⟩ | ⟨ne, _⟩
        · cases z
          rw [set_other (Ne.symm kj)] at f3
          exact absurd (E.inj k i q p ad g e1 f3 e2) ki
        · exact absurd rfl ne
      · obtain ⟨_, g'⟩ := back lj f2
        rw [set_other (Ne.symm kj)] at f3
        rw [set_other (Ne.symm lj)] at f4
        exact E.inj k l q q' b g g' f3 f4
theorem ss_mov {i j : Nat} (hN : T.N[j]? = some x) (hl : locB T x = true) (hM : T.N[i]? = some y) (hv : visB T.scope y = true) (hn : nameB y = true) : SS T fr (.Assign [.Name x p] (.Name y p2) pos) (.mov j i) := fun Y W Φ w X ok => by
  obtain ⟨h1, h2⟩ := locB_ok ok hl
  obtain ⟨n1, n2, _⟩ := nameB_ok hn
  refine PS.imp (ps_set (by rw [ok.N]; exact ok.nd) (by rw [ok.N]; exact hN) h1 (pe_var (by rw [ok.N]; exact hM) (by rw [ok.sc]; exact visB_ok hv) n1 n2) (by rfl) h2) fun D σ H ⟨ρ, F, H0, er, h⟩ => ?_
  unfold evS at h
  split at h
  · rename_i q e
    obtain ⟨ad, e1, _⟩ := er.ow i _ e
    exact ⟨_, e1, h _ H (er.move e e1)⟩
  · exact False.elim h
/-! ### x.remove(v) -/
theorem reps_erase {K : PySem.W.Frag} {G : Addr → Prop} {H : Hp} : ∀ {xs : List PyData} {vs : List V} (k : Nat), Reps K G H xs vs → Reps K G H (xs.eraseIdx k) (vs.eraseIdx k)
  | [], [], _, h => h
  | p :: ps, v :: vs, 0, h => by unfold Reps at h; exact h.2
  | p :: ps, v :: vs, k + 1, h => by
    unfold Reps at h
    show Reps K G H (p :: ps.eraseIdx k) (v :: vs.eraseIdx k)
    unfold Reps
    exact ⟨h.1, reps_erase k h.2⟩
  | [], _ :: _, _, h => by unfold Reps at h; exact h.elim
  | _ :: _, [], _, h => by unfold Reps at h; exact h.elim
theorem reps_noLists {K : PySem.W.Frag} {G G' : Addr → Prop} {H : Hp} : ∀ (ps : List PyData) (vs : List V), noLists ps = true → Reps K G H ps vs → Reps K G' H ps vs
  | [], [], _, _ => by unfold Reps; trivial
  | p :: ps, v :: vs, n, h => by
    unfold noLists at n
    rw [Bool.and_eq_true] at n
    unfold Reps at h ⊢
    exact ⟨rep_noList _ _ n.1 h.1, reps_noLists ps vs n.2 h.2⟩
  | [], _ :: _, _, h => by unfold Reps at h; exact h.elim
  | _ :: _, [], _, h => by unfold Reps at h; exact h.elim
theorem flat_read {K : KB} {F : Addr → Prop} {H0 H H' : Hp} {σ : L2.St} {ρ : PEnv} {q : PyData} {v : V} {D : Ends} {W : XW} {G : Addr → Prop} {i : Nat} {b : Bool} (er : EnvRep K F H0 H σ ρ) (s : Same H H') (r : RepR K G H H' b q v)
    (h : RP W (match q with | .list ps => guardR (b && noLists ps) (.ok (.nx (ρ.set i (some (true, .list ps))))) | _ => R.bad) (FlP K F H0 fr D)) : gP K (.nm i) v σ H' D.nx := by
  cases q with
  | list ps =>
    obtain ⟨c, h⟩ := RP.guard (show RP W (guardR (b && noLists ps) (.ok (.nx (ρ.set i (some (true, .list ps)))))) (FlP K F H0 fr D) from h)
    rw [Bool.and_eq_true] at c
    obtain ⟨ad, vs, rfl, e2, e3, e4⟩ := r.2 c.1 ps rfl
    have h : FlP K F H0 fr D (.nx (ρ.set i (some (true, .list ps)))) := h
    exact h _ _ (er.setOwn s i e2 e3 (reps_noLists ps vs c.2 e4))
  | _ => exact False.elim h
theorem ss_setLf {tg : Expr} {itg : Tg} {iter : Expr} {is : List E} {i : Nat} {elt : Expr} {ifs : List Expr} {scope : Scope} {own : List (Str × Nat)} {sr : Src} {icd : Option E} (hcm : T.cm = true) (hN : T.N[i]? = some x) (hl : T.scope.names.lookup x = some .local)
    (hsw : ∀ env : Env, env.scope.kind = .function → env.scope.names.lookup x = some .local → swapsWith (.ListComp elt [⟨tg, iter, ifs, 0⟩] scope p2) (some (.Name x p)) pos.line env = pure true)
    (hi : SI T tg iter sr is) (hb : blkC T.N T.scope scope own = true) (ht : ∀ j, j ∈ tgSlots itg → j ∈ own.map (·.2)) (hg : SG (T.inner scope) tg itg) (hc : SC (T.inner scope) ifs icd) (he : SE (T.inner scope) elt ie) :
    SS T fr (.Assign [.Name x p] (.ListComp elt [⟨tg, iter, ifs, 0⟩] scope p2) pos) (.asf i (.comp (own.map (·.2)) itg sr is icd ie)) := fun Y W Φ w X ok => by
  have hk : X.env.scope.kind = .function ∨ True := .inr trivial
  have bo : BlkOk X.N X.env.scope scope own := by rw [ok.N, ok.sc]; exact blkOk_by hb
  have hyl : X.env.scope.names.lookup x = some .local := by rw [ok.sc]; exact hl
  refine ⟨fun pins s σ H D I h => ?_⟩
  have base : PS X (.Assign [.Name x p] (.ListComp elt [⟨tg, iter, ifs, 0⟩] scope p2) pos) (tAsg (tLc (rdI (Y.kb X.K) W (fun ρ => (evEs Φ is ρ).bind (srcItems sr)) (lks is)) (gP X.K itg) (rdT (Y.kb X.K) (fun _ _ => False) (evC Φ icd)) (rd (Y.kb X.K) (fun _ _ => False) (evE Φ ie) (lk ie) (lkI ie) (fresh ie)) (own.map (·.2))) (gName i)) :=
    ps_setLc (ok.calm hcm) (by rw [ok.N]; exact ok.nd) (by rw [ok.N]; exact hN) hyl (hsw X.env I.ok.kind hyl) (hi.2 Y W Φ X ok) bo (fun s H C cl fp => hg Y _ Φ _ (cx_blk ok s H scope C cl fp)) (fun s H C cl fp => hc Y _ Φ _ (cx_blk ok s H scope C cl fp))
    (fun s H C cl fp => he.2 Y _ Φ _ (cx_blk ok s H scope C cl fp)) (plainE_fold hi.1 _)
  refine base.run pins s σ H D I ?_
  obtain ⟨ρ, F, H0, er, h⟩ := h
  unfold evS at h
  refine comp_read ht ⟨ρ, F, H0, er, (RP.bind h).mono fun q hq v H' s r _ => ?_⟩
  exact flat_read er s r hq
theorem ss_rem {i : Nat} (hN : T.N[i]? = some x) (hv : visB T.scope x = true) (hn : nameB x = true) (ha : SE T a ie) (hline : (apos.endLine == p2.line) = true) :
    SS T fr (.Expr (.Call (.Attribute (.Name x p) "remove" apos) [a] [] p2) pos) (.rem i ie) := fun Y W Φ w X ok => by
  obtain ⟨n1, n2, _⟩ := nameB_ok hn
  refine PS.imp (ps_expr (pe_bm PySem.F.plainAttrs_list PySem.F.slot_list_remove PySem.F.type_list_remove (mt_removeD ok.unitsM) (pe_var (by rw [ok.N]; exact hN) (by rw [ok.sc]; exact visB_ok hv) n1 n2) (pa_cons (ha.2 Y W Φ X ok) pa_nil (plainE_star ha.1 _ _))
    (by rfl) ?_ hline (plainE_star ha.1 _ _) (by rfl)) (by rfl)) fun D σ H ⟨ρ, F, H0, er, h⟩ => ?_
  · rw [plainE_star ha.1]; rfl
  · unfold evS at h
    split at h
    · rename_i xs e
      obtain ⟨ps, ad, vs, eq, e1, e2, _⟩ := er.own i _ e
      cases eq
      refine ⟨_, e1, .inl ⟨rfl, vs, .inl (.inl e2)⟩, ρ, F, H0, er, (RP.bind h).mono fun q hq v H1 s1 r1 i1 => ?_⟩
      have er1 := er.grow s1
      obtain ⟨c, hq⟩ := RP.guard hq
      rw [Bool.and_eq_true] at c
      obtain ⟨ps2, ad2, vs2, eq2, f1, f2, f3, f4, f5⟩ := er1.own i _ e
      cases eq2
      rw [e1] at f1
      cases f1
      cases ek : xs.findIdx? fun z => PyData.eqv z q with
      | none => rw [ek] at hq; exact hq.elim
      | some k =>
        rw [ek] at hq
        obtain ⟨z, hz, hzk, hno⟩ := find_some ek
        have k1 : PyData.canLayAll0 xs = true := by
          have := SeqAt.canLay_of_shaped c.1
          unfold PyData.canLay0 at this
          exact this
        refine ⟨ad, vs2, v, q, xs, k, z, rfl, rfl, f2, Reps.dp xs vs2 k1 f5, dpI (SeqAt.canLay_of_shaped c.2) i1, c.1, c.2, hz, hzk, hno, ?_⟩
        exact hq σ _ (er1.mutate e e1 (reps_erase k f5))
    · exact False.elim h
end
end L2.Pu
namespace L2.Pu
open PySem PySem.Spec PyProof.Rows
section
variable {T : Tb} {fr : Bool} {x y : Str} {pos p2 p apos : Pos} {a b e : Expr} {ia ib ie : E}
theorem strs_reps {K : PySem.W.Frag} {G : Addr → Prop} {H : Hp} : ∀ {ps : List PyData} {ys : List Str} {vs : List V}, strsP ps = some ys → Reps K G H ps vs → vs = ys.map V.str
  | [], ys, [], h, _ => by cases h; rfl
  | [], _, _ :: _, _, r => by unfold Reps at r; exact r.elim
  | _ :: _, _, [], _, r => by unfold Reps at r; exact r.elim
  | .str x :: ps, ys, v :: vs, h, r => by
    have h : (strsP ps).map (fun ys => x :: ys) = some ys := h
    cases e : strsP ps with
    | none => rw [e] at h; cases h
    | some zs =>
      rw [e] at h
      cases h
      unfold Reps at r
      rw [strs_reps e r.2]
      have r1 := r.1
      unfold Rep at r1
      rw [r1]; rfl
  | .none :: _, _, _ :: _, h, _ => by cases h
  | .bool _ :: _, _, _ :: _, h, _ => by cases h
  | .int _ :: _, _, _ :: _, h, _ => by cases h
  | .list _ :: _, _, _ :: _, h, _ => by cases h
  | .tuple _ :: _, _, _ :: _, h, _ => by cases h
  | .dict _ :: _, _, _ :: _, h, _ => by cases h
theorem reps_strs {K : PySem.W.Frag} {G : Addr → Prop} {H : Hp} : ∀ ys : List Str, Reps K G H (ys.map .str) (ys.map V.str)
  | [] => by show Reps K G H [] []; unfold Reps; trivial
  | y :: ys => by
    show Reps K G H (.str y :: ys.map .str) (V.str y :: ys.map V.str)
    unfold Reps
    exact ⟨by unfold Rep; rfl, reps_strs ys⟩
theorem rep_strV {K : PySem.W.Frag} {G : Addr → Prop} {H : Hp} {y : Str} : Rep K G H (.str y) (.str y) := by unfold Rep; rfl
theorem star1 {X : Cx} (h : plainE e = true) : starEach [e] X.env = [(false, eval e X.env)] := by rw [plainE_star h]; rfl
theorem se_jn (hs : noSup a = true) (ha : SE T a ia) (hb : SE T b ib) (hline : (apos.endLine == p2.line) = true) : SE T (.Call (.Attribute a "join" apos) [b] [] p2) (.jn ia ib) := by
  refine ⟨rfl, fun Y W Φ X ok => PE.imp (pe_join (ha.2 Y W Φ X ok) (hb.2 Y W Φ X ok) (star1 hb.1) (noSup_base hs _ _) hline) fun σ H Q ⟨ρ, F, H0, er, h⟩ => ?_⟩
  unfold evE at h
  refine ⟨ρ, F, H0, er, (RP.bind h).mono fun z hz v1 H1 s1 r1 i1 => ?_⟩
  cases z with
  | str t =>
    have e1 := r1.1
    unfold Rep at e1
    subst e1
    have er1 := er.grow s1
    refine ⟨⟨t, rfl⟩, ρ, F, H0, er1, (RP.bind (show RP W ((evE Φ ib ρ).bind fun y => joinV t y) _ from hz)).mono fun y hy v2 H2 s2 r2 i2 => ?_⟩
    cases y with
    | list ps =>
      obtain ⟨ad, vs, rfl, sq, rr⟩ := i2
      have hy : RP W (match strsP ps with
        | some ys => guardR (decide ((ys.map (·.length)).sum + ys.length * t.length ≤ 16777216)) (.ok (PyData.str (Txt.join t ys)))
        | none => .bad) _ := hy
      cases e : strsP ps with
      | none => rw [e] at hy; exact hy.elim
      | some ys =>
        rw [e] at hy
        obtain ⟨c, hy⟩ := RP.guard hy
        have ev := strs_reps e rr
        subst ev
        exact ⟨t, ad, ys, rfl, rfl, .inl sq, of_decide_eq_true c, hy _ H2 (s1.trans s2) (repR_of rep_strV rfl) (.of rep_strV)⟩
    | _ => exact False.elim hy
  | _ => exact False.elim hz
theorem se_fs {t : Str} {j : Nat} {p1 : Pos} (hl : (Str.empty ++ t).length ≤ sizeLine) (ha : SE T a ia) : SE T (.JoinedStr [.Constant (.str t) j p1, .FormattedValue a (-1) none p2] pos) (.fs t ia) := by
  refine ⟨rfl, fun Y W Φ X ok => PE.imp (pe_joined (.cons pe_str (.cons (pe_fmt (ha.2 Y W Φ X ok)) .nil))) fun σ H Q ⟨ρ, F, H0, er, h⟩ => ?_⟩
  unfold evE at h
  refine ⟨t, rfl, hl, ρ, F, H0, er, (RP.bind h).mono fun z hz v1 H1 s1 r1 i1 => ?_⟩
  cases z with
  | int i =>
    have e1 := rep_int_v r1.1
    subst e1
    obtain ⟨c, hz⟩ := RP.guard (show RP W (guardR (decide (i.natAbs.log2 < 1920) && (decide ((Str.empty ++ t).length ≤ sizeLine) && decide ((Str.empty ++ t ++ Str.ofString (toString i)).length ≤ sizeLine))) (R.ok (PyData.str (Str.empty ++ t ++ Str.ofString (toString i))))) _ from hz)
    rw [Bool.and_eq_true, Bool.and_eq_true] at c
    exact .inr ⟨i, rfl, of_decide_eq_true c.1, _, rfl, of_decide_eq_true c.2.2, hz _ H1 s1 (repR_of rep_strV rfl) (.of rep_strV)⟩
  | _ => exact False.elim hz
theorem se_spl (hs : noSup a = true) (ha : SE T a ia) (hb : SE T b ib) (hline : (apos.endLine == p2.line) = true) : SE T (.Call (.Attribute a "split" apos) [b] [] p2) (.spl ia ib) := by
  refine ⟨rfl, fun Y W Φ X ok => PE.imp (pe_split (ha.2 Y W Φ X ok) (hb.2 Y W Φ X ok) (star1 hb.1) (noSup_base hs _ _) hline) fun σ H Q ⟨ρ, F, H0, er, h⟩ => ?_⟩
  unfold evE at h
  refine ⟨ρ, F, H0, er, (RP.bind h).mono fun z hz v1 H1 s1 r1 i1 => ?_⟩
  cases z with
  | str t =>
    have e1 := r1.1
    unfold Rep at e1
    subst e1
    have er1 := er.grow s1
    refine ⟨⟨t, rfl⟩, ρ, F, H0, er1, (RP.bind (show RP W ((evE Φ ib ρ).bind fun y => splitV t y) _ from hz)).mono fun y hy v2 H2 s2 r2 i2 => ?_⟩
    cases y with
    | str u =>
      have e2 := r2.1
      unfold Rep at e2
      subst e2
      obtain ⟨c, hy⟩ := RP.guard (show RP W (guardR (!(u.length == 0) && decide (t.length + 2 ≤ sizeLine)) (.ok (PyData.list ((Txt.split t u).map .str)))) _ from hy)
      rw [Bool.and_eq_true, Bool.not_eq_true'] at c
      refine ⟨t, u, rfl, rfl, c.1, of_decide_eq_true c.2, fun q hq => ?_⟩
      have sm := s1.trans s2
      have R := new_list (K := X.K) (G := FX F [] σ ρ) hq ((er.grow sm).ftX []) (reps_strs (K := X.K) (Txt.split t u))
      exact hy (.ref q) _ (sm.trans (upd_same_grow hq)) (R.sub (fun _ z => z) sm) (.of R.1)
    | _ => exact False.elim hy
  | _ => exact False.elim hz
end
end L2.Pu
namespace L2.Pu
open PySem PySem.Spec PyProof.Rows
/-! ### dicts of one's own: int keys, values that lean on nothing -/
def vS (p : PyData) : V := (scV p).getD .non
theorem rep_sc {K : PySem.W.Frag} {G : Addr → Prop} {H : Hp} {p : PyData} (h : (scV p).isSome = true) : Rep K G H p (vS p) := by
  cases p with
  | none => unfold Rep; rfl
  | bool b => unfold Rep; rfl
  | int i => unfold Rep; rfl
  | str x => unfold Rep; rfl
  | _ => cases h
theorem sc_rep {K : PySem.W.Frag} {G : Addr → Prop} {H : Hp} {p : PyData} {v : V} (h : (scV p).isSome = true) (r : Rep K G H p v) : v = vS p := by
  cases p with
  | none => unfold Rep at r; exact r
  | bool b => unfold Rep at r; exact r
  | int i => unfold Rep at r; exact r
  | str x => unfold Rep at r; exact r
  | _ => cases h
theorem sc_notList {p : PyData} (h : (scV p).isSome = true) : isListP p = false := by
  cases p <;> first | rfl | cases h
theorem sc_RI {K : PySem.W.Frag} {G : Addr → Prop} {H : Hp} {p : PyData} (h : (scV p).isSome = true) : RepI K G H p (vS p) := .of (rep_sc h)
theorem valI_map (l : List (Int × PyData)) (k : Int) : valV (l.map dkv) (Sum.inl k : Key) = (valI l k).map vS := by
  induction l with
  | nil => rfl
  | cons q l ih =>
    by_cases h : q.1 = k
    · rw [List.map_cons, valV_pos (show (dkv q).1 = Sum.inl k by show Sum.inl q.1 = _; rw [h])]
      unfold valI
      rw [List.find?_cons, decide_eq_true h]; rfl
    · rw [List.map_cons, valV_neg (fun z => h (Sum.inl.inj z)), ih]
      unfold valI
      rw [List.find?_cons, decide_eq_false h]
theorem dec_key {a k : Int} : decide ((Sum.inl a : Key) = Sum.inl k) = decide (a = k) := decide_eq_decide.mpr ⟨fun z => Sum.inl.inj z, fun z => by rw [z]⟩
theorem any_map (l : List (Int × PyData)) (k : Int) : ((l.map dkv).any fun kv => decide (kv.1 = (Sum.inl k : Key))) = l.any fun kv => decide (kv.1 = k) := by
  induction l with
  | nil => rfl
  | cons q l ih =>
    rw [List.map_cons, List.any_cons, List.any_cons, ih]
    exact congrArg (· || _) dec_key
theorem putI_map (l : List (Int × PyData)) (k : Int) (v : PyData) : putK (l.map dkv) (Sum.inl k : Key) (vS v) = (putI l k v).map dkv := by
  unfold putK putI
  rw [any_map]
  by_cases h : (l.any fun kv => decide (kv.1 = k)) = true
  · rw [if_pos h, if_pos h, List.map_map, List.map_map]
    refine List.map_congr_left fun q _ => ?_
    show (if (dkv q).1 = Sum.inl k then ((dkv q).1, vS v) else dkv q) = dkv (if q.1 = k then (q.1, v) else q)
    by_cases e : q.1 = k
    · rw [if_pos e, if_pos (show (dkv q).1 = Sum.inl k by show Sum.inl q.1 = _; rw [e])]; rfl
    · rw [if_neg e, if_neg (show ¬ (dkv q).1 = (Sum.inl k : Key) from fun z => e (Sum.inl.inj z))]
  · rw [if_neg h, if_neg h, List.map_append]; rfl
theorem putI_sc {l : List (Int × PyData)} {k : Int} {v : PyData} (h : l.all (fun kv => (scV kv.2).isSome) = true) (hv : (scV v).isSome = true) : (putI l k v).all (fun kv => (scV kv.2).isSome) = true := by
  rw [List.all_eq_true] at h ⊢
  intro q hq
  unfold putI at hq
  by_cases c : (l.any fun kv => decide (kv.1 = k)) = true
  · rw [if_pos c] at hq
    obtain ⟨r, hr, e⟩ := List.mem_map.mp hq
    by_cases e2 : r.1 = k
    · rw [if_pos e2] at e; subst e; exact hv
    · rw [if_neg e2] at e; subst e; exact h _ hr
  · rw [if_neg c] at hq
    rcases List.mem_append.mp hq with z | z
    · exact h _ z
    · rw [List.mem_singleton.mp z]; exact hv
theorem valI_sc {l : List (Int × PyData)} {k : Int} {z : PyData} (h : l.all (fun kv => (scV kv.2).isSome) = true) (e : valI l k = some z) : (scV z).isSome = true := by
  unfold valI at e
  cases f : l.find? fun kv => decide (kv.1 = k) with
  | none => rw [f] at e; cases e
  | some q =>
    rw [f] at e
    cases e
    exact List.all_eq_true.mp h _ (List.mem_of_find?_eq_some f)
theorem dkO_of {ks : List (PyData × PyData)} {l : List (Int × PyData)} (h : unD ks = some l) : dkO ks = some (.dK (l.map dkv)) := by
  unfold dkO; rw [unT_D h, h]; rfl
theorem dkO_un {ks : List (PyData × PyData)} {o : HO} (hu : (unD ks).isSome = true) (h : dkO ks = some o) : ∃ l, unD ks = some l ∧ o = .dK (l.map dkv) := by
  obtain ⟨l, e⟩ := Option.isSome_iff_exists.mp hu
  rw [dkO_of e] at h
  cases h
  exact ⟨l, e, rfl⟩
theorem dictV_ok {W : XW} {x : PyData} {P : List (Int × PyData) → Prop} (h : RP W (dictV x) P) : ∃ ks l, x = .dict ks ∧ unD ks = some l ∧ P l := by
  cases x with
  | dict ks =>
    have h : RP W (optR (unD ks)) P := h
    cases e : unD ks with
    | none => rw [e] at h; exact h.elim
    | some l => rw [e] at h; exact ⟨ks, l, rfl, e, h⟩
  | _ => exact False.elim h
theorem intV_okD {W : XW} {x : PyData} {P : Int → Prop} (h : RP W (intV x) P) : ∃ i, x = .int i ∧ P i := by
  cases x with
  | int i => exact ⟨i, rfl, h⟩
  | _ => exact False.elim h
theorem optR_ok {α : Type} {W : XW} {o : Option α} {P : α → Prop} (h : RP W (optR o) P) : ∃ a, o = some a ∧ P a := by
  cases o with
  | none => exact False.elim h
  | some a => exact ⟨a, rfl, h⟩
/-- a dict as it is read -/
theorem dict_at {K : PySem.W.Frag} {G : Addr → Prop} {H : Hp} {ks : List (PyData × PyData)} {l : List (Int × PyData)} {v : V} (e : unD ks = some l) (h : RepI K G H (.dict ks) v) : ∃ a, v = .ref a ∧ H a = some (.dK (l.map dkv)) := by
  have h : Rep K (fun _ => False) H (.dict ks) v := h
  unfold Rep at h
  obtain ⟨a, ev, g⟩ := h
  refine ⟨a, ev, ?_⟩
  rcases g with g | g
  · obtain ⟨c, as, ek, _⟩ := g
    rw [ek] at e
    have e : (none : Option (List (Int × PyData))) = some l := e
    cases e
  · obtain ⟨o, g1, g2, _⟩ := g
    rw [dkO_of e] at g1
    cases g1
    exact g2
section
variable {T : Tb} {x : Str} {pos p2 p apos : Pos} {a b c e : Expr} {ia ib ic ie : E} {fr : Bool} {es : List Expr} {is : List E}
theorem se_dget (ha : SE T a ia) (hb : SE T b ib) : SE T (.Subscript a b pos) (.dget ia ib) := by
  refine ⟨rfl, fun Y W Φ X ok => PE.imp (pe_dget (by have := ok.units; omega) (ha.2 Y W Φ X ok) (hb.2 Y W Φ X ok) (plainE_ix hb.1)) fun σ H Q ⟨ρ, F, H0, er, h⟩ => ?_⟩
  unfold evE at h
  refine ⟨ρ, F, H0, er, (RP.bind h).mono fun z hz v1 H1 s1 r1 i1 => ⟨ρ, F, H0, er.grow s1, (RP.bind hz).mono fun y hy v2 H2 s2 r2 i2 => ?_⟩⟩
  obtain ⟨ks, l, rfl, eu, hy⟩ := dictV_ok (RP.bind hy)
  obtain ⟨k, rfl, hy⟩ := intV_okD (RP.bind hy)
  obtain ⟨q, eq, hy⟩ := optR_ok (show RP W (optR (valI l k)) _ from hy)
  obtain ⟨ad, rfl, hd⟩ := dict_at eu i1
  have e2 := two_int i2
  subst e2
  have sc := valI_sc (unD_sc eu) eq
  have g := DGet.k (k := (Sum.inl k : Key)) (s2 _ _ hd)
  rw [valI_map, eq] at g
  exact ⟨ad, vS q, rfl, g, hy _ H2 (s1.trans s2) (repR_of (rep_sc sc) (sc_notList sc)) (sc_RI sc)⟩
theorem se_dgt2 (hs : noSup a = true) (ha : SE T a ia) (hb : SE T b ib) (hc : SE T c ic) (hline : (apos.endLine == p2.line) = true) : SE T (.Call (.Attribute a "get" apos) [b, c] [] p2) (.dgt2 ia ib ic) := by
  refine ⟨rfl, fun Y W Φ X ok => PE.imp (pe_dget2 (by have := ok.units; omega) (ha.2 Y W Φ X ok) (hb.2 Y W Φ X ok) (hc.2 Y W Φ X ok) ⟨noSup_base hs _ _, ?_, hline, ?_⟩) fun σ H Q ⟨ρ, F, H0, er, h⟩ => ?_⟩
  · rw [plainE_star hb.1, plainE_star hc.1]; rfl
  · rw [plainE_star hb.1, plainE_star hc.1]; rfl
  unfold evE at h
  refine ⟨ρ, F, H0, er, (RP.bind h).mono fun z hz v1 H1 s1 r1 i1 => ?_⟩
  obtain ⟨ks, l, rfl, eu, hz⟩ := dictV_ok (RP.bind hz)
  obtain ⟨ad, rfl, hd⟩ := dict_at eu i1
  refine ⟨ad, rfl, .inl ⟨_, .inl hd⟩, ρ, F, H0, er.grow s1, (RP.bind hz).mono fun y hy v2 H2 s2 r2 i2 => ?_⟩
  obtain ⟨k, ek, hy2⟩ := intV_okD (RP.bind hy)
  subst ek
  have e2 := two_int i2
  subst e2
  refine ⟨ρ, F, H0, (er.grow s1).grow s2, (RP.bind hy2).mono fun q hq v3 H3 s3 r3 i3 => ?_⟩
  obtain ⟨sc, hq⟩ := RP.guard (show RP W (guardR (scV q).isSome (.ok ((valI l k).getD q))) _ from hq)
  have e3 := sc_rep sc r3.1
  subst e3
  have g := DGet.k (k := (Sum.inl k : Key)) (s3 _ _ (s2 _ _ hd))
  rw [valI_map] at g
  have sm := s1.trans (s2.trans s3)
  refine ⟨_, g, ?_⟩
  cases eq : valI l k with
  | none =>
    rw [eq] at hq
    exact hq _ H3 sm (repR_of (rep_sc sc) (sc_notList sc)) (sc_RI sc)
  | some z =>
    rw [eq] at hq
    have sz := valI_sc (unD_sc eu) eq
    exact hq _ H3 sm (repR_of (rep_sc sz) (sc_notList sz)) (sc_RI sz)
theorem se_dlen (hg : gloB T.scope "len" = true) (hb : ("len" : Str) ∈ T.blts) (ha : SE T a ia) : SE T (.Call (.Name "len" p) [a] [] pos) (.dlen ia) := by
  refine ⟨rfl, fun Y W Φ X ok => PE.imp (pe_callB call_lenD (gloB_ok ok hg) (ok.blt _ hb) (by decide +kernel) (pa_cons (ha.2 Y W Φ X ok) pa_nil (plainE_star ha.1 _ _)) (by decide) (by decide) (plainE_star ha.1 _ _) (by rfl)) fun σ H Q ⟨ρ, F, H0, er, h⟩ => ?_⟩
  unfold evE at h
  refine ⟨ρ, F, H0, er, (RP.bind h).mono fun z hz v1 H1 s1 r1 i1 => ?_⟩
  obtain ⟨ks, l, rfl, eu, hz⟩ := dictV_ok (RP.bind hz)
  obtain ⟨ad, rfl, hd⟩ := dict_at eu i1
  refine ⟨ad, _, rfl, hd, ?_⟩
  rw [List.length_map]
  exact hz _ H1 s1 (repR_of rep_int rfl) (.of rep_int)
/-- sorted(d) of a dict, all keys ints, any number of them -/
theorem call_sortedDN {X : Cx} (hcalm : X.calm = true) : CallR X (.builtin "sorted") (fun xs H Q => ∃ (a : Addr) (kvs : List (Key × V)) (ks : List Int), xs = [.ref a] ∧ Rd H a (.dK kvs) ∧ kvs.map (·.1) = ks.map Sum.inl ∧ ks.length < 10000 ∧
    ∀ (ys : List Int) (p : Addr), ys.Perm ks → ys.Pairwise (· ≤ ·) → H p = none → Q (.ref p) (upd H p (.lst (ys.map V.int)))) := by
  intro pins s σ H xs us Q I r q
  obtain ⟨a, kvs, ks, ex, hd, hks, h64, q⟩ := q
  subst ex
  obtain ⟨u, eu, rx⟩ := vals1 r
  subst eu
  cases rx
  obtain ⟨z, lo, vs, rel, dd⟩ := dk_rd I.hok hd
  obtain ⟨ep, hat⟩ := dd.dictAt
  have hkeys : vs.map (·.1) = ks.map Sum.inl := rel.keys.symm.trans hks
  have hl : vs.length = ks.length := by
    have e := congrArg List.length hkeys
    rw [List.length_map, List.length_map] at e
    exact e
  have h16 : vs.length ≤ sizeLine := by rw [hl, sizeLine_eq]; omega
  refine Calls.call_function_entry PyProof.Rows.kind_sorted PyProof.Rows.plain_sorted PyProof.Rows.entry_sorted (PyProof.Rows.args_sorted1 _) ?_
  unfold Builtin.«sorted»
  refine wpAny_bind (m := checkCount "sorted" 1 1 _) (wpAny_pure ?_)
  refine wpAny_bind (PySem.W.kdu_collect (A := X.A.in1) (PySem.W.kdl_dict (knd := mixKind X.prog X.w) (kvs := vs) (ep := ep) lo) (I.ok.hd hcalm) hat h16 fun h' tk acc hk hacc => ?_)
  have hal : acc.toList.length = ks.length := by rw [Array.length_toList, hacc.1, hl]
  have hS : IntsAre acc.toList ks := ints_each hal fun j v e => by
    obtain ⟨k, x, e1, e2⟩ := hacc.2 j v (by rw [← Array.getElem?_toList]; exact e)
    have e3 : (vs.map (·.1))[j]? = some k := by rw [List.getElem?_map, e1]; rfl
    rw [hkeys, List.getElem?_map] at e3
    cases e4 : ks[j]? with
    | none => rw [e4] at e3; cases e3
    | some y =>
      rw [e4] at e3
      have e5 : Sum.inl y = k := Option.some.inj e3
      subst e5
      rcases keyIs_shape (show keyIs (Sum.inl y) v = true from e2) with ⟨i, t, ek, ev⟩ | ⟨z, t, ek, ev⟩
      · cases ek
        exact ⟨y, t, rfl, ev⟩
      · cases ek
  have I1 : Inv X pins σ H { s with heap := h', toks := tk } := I.kept hk
  have hz : acc.toList.length ≤ sizeLine := by rw [hal, sizeLine_eq]; omega
  refine wpAny_bind (wpAny_newList ?_ hz)
  have hoL : (h'.push (seqObj "list" acc.toList.toArray 0)).get? h'.objs.size = some (seqObj "list" acc.toList.toArray 0) := Heap.get?_push_size _ rfl
  show wpAny _ _ _ _ _ { s with heap := h'.push (seqObj "list" acc.toList.toArray 0), toks := tk }
  refine wpAny_bind (wpAny_holding (wpAny_call_entry PyProof.Rows.slot_list_sort ⟨_, hoL, rfl⟩ PyProof.Rows.entry_list_sort
    (SrtO.list_sort_ord (s := { s with heap := h'.push (seqObj "list" acc.toList.toArray 0), toks := tk }) SrtO.swo_int hoL hz (fun h2 => SrtO.ints_sortable hS h2) fun out g1 g2 => ⟨_, rfl, ?_⟩) (PyProof.Rows.args_list_sort _)))
  obtain ⟨k1, k2, k3⟩ := SrtO.ints_out hS g1 g2
  obtain ⟨e', he'⟩ := PyProof.Rows.sortedHeap_at (vs := acc.toList) (out := out.toArray) hoL
  have hlen : ((out.map SrtO.iv).map V.int).length ≤ sizeLine := by
    rw [List.length_map, k2.length_eq, sizeLine_eq]
    omega
  refine wpAny_pure ⟨_, rfl, .ref h'.objs.size, upd H h'.objs.size (.lst ((out.map SrtO.iv).map V.int)), I1.laid (t' := tk) (fun b u e => ?_) (Nat.le_refl _)
    (show ObjOk X.prog X.w _ _ _ (.lst ((out.map SrtO.iv).map V.int)) from ⟨hlen, out, e', vals_of_ints k1, he'⟩), rfl, q _ _ k2 k3 (I1.hok.fresh (Nat.le_refl _))⟩
  have hb : b < h'.objs.size := Heap.lt_size e
  rw [PyProof.Rows.sortedHeap_old (Nat.ne_of_lt hb) (by rw [size_push']; exact Nat.lt_succ_of_lt hb)]
  exact Heap.get?_push_of_some _ e
theorem se_dsrt (hcm : T.cm = true) (hg : gloB T.scope "sorted" = true) (hb : ("sorted" : Str) ∈ T.blts) (ha : SE T a ia) : SE T (.Call (.Name "sorted" p) [a] [] pos) (.dsrt ia) := by
  refine ⟨rfl, fun Y W Φ X ok => PE.imp (pe_callB (call_sortedDN (ok.calm hcm)) (gloB_ok ok hg) (ok.blt _ hb) (by decide +kernel) (pa_cons (ha.2 Y W Φ X ok) pa_nil (plainE_star ha.1 _ _)) (by decide) (by decide) (plainE_star ha.1 _ _) (by rfl)) fun σ H Q ⟨ρ, F, H0, er, h⟩ => ?_⟩
  unfold evE at h
  refine ⟨ρ, F, H0, er, (RP.bind h).mono fun z hz v1 H1 s1 r1 i1 => ?_⟩
  obtain ⟨ks, l, rfl, eu, hz⟩ := dictV_ok (RP.bind hz)
  obtain ⟨ad, rfl, hd⟩ := dict_at eu i1
  obtain ⟨c, hz⟩ := RP.guard (show RP W (guardR (decide (l.length < 10000)) (sortV (l.map fun kv => .int kv.1))) _ from hz)
  refine ⟨ad, l.map dkv, l.map (·.1), rfl, .inl hd, by rw [List.map_map, List.map_map]; rfl, by rw [List.length_map]; exact of_decide_eq_true c, fun ys q pm so hq => ?_⟩
  have rints : ∀ l : List Int, Reps X.K (FX F [] σ ρ) H1 (l.map .int) (l.map V.int) := fun l => by
    induction l with
    | nil => show Reps X.K _ H1 [] []; unfold Reps; trivial
    | cons i l ih =>
      show Reps X.K _ H1 (.int i :: l.map .int) (.int i :: l.map V.int)
      unfold Reps
      exact ⟨rep_int, ih⟩
  have ei : ∀ l : List Int, intsP (l.map .int) = some l := fun l => by
    induction l with
    | nil => rfl
    | cons i l ih => show (intsP (l.map .int)).map _ = _; rw [ih]; rfl
  have hz : RP W (sortV ((l.map (·.1)).map .int)) (fun p => ∀ v H', Same H H' → RepR X.K (FX F [] σ ρ) H H' true p v → RepI X.K (FX F [] σ ρ) H' p v → Q v H') := by
    rw [List.map_map]; exact hz
  unfold sortV at hz
  rw [ei] at hz
  obtain rfl : ys = sortI (l.map (·.1)) := sorted_one (pm.trans (sortI_perm _).symm) so (sortI_sorted _)
  have R := new_list (K := X.K) (G := FX F [] σ ρ) hq ((er.grow s1).ftX []) (rints (sortI (l.map (·.1))))
  exact hz (.ref q) _ (s1.trans (upd_same_grow hq)) (R.sub (fun _ z => z) s1) (.of R.1)
/-! ### statements -/
theorem ss_dnew {i : Nat} (hN : T.N[i]? = some x) (hl : locB T x = true) : SS T fr (.Assign [.Name x p] (.Dict [] [] p2) pos) (.dnew i) := fun Y W Φ w X ok => by
  obtain ⟨h1, h2⟩ := locB_ok ok hl
  refine PS.imp (ps_set (by rw [ok.N]; exact ok.nd) (by rw [ok.N]; exact hN) h1 pe_dnewK (by rfl) h2) fun D σ H ⟨ρ, F, H0, er, h⟩ => ?_
  unfold evS at h
  exact fun q hq => h _ _ (er.setOwnG (upd_same_grow hq) i hq ⟨_, rfl, upd_same, fun z => Bool.noConfusion z⟩)
theorem ss_dnw1 {i : Nat} (hN : T.N[i]? = some x) (hl : locB T x = true) (hb : SE T b ib) (hc : SE T c ic) : SS T fr (.Assign [.Name x p] (.Dict [some b] [c] p2) pos) (.dnw1 i ib ic) := fun Y W Φ w X ok => by
  obtain ⟨h1, h2⟩ := locB_ok ok hl
  refine PS.imp (ps_set (by rw [ok.N]; exact ok.nd) (by rw [ok.N]; exact hN) h1 (pe_disp (pps_cons (hb.2 Y W Φ X ok) (hc.2 Y W Φ X ok) pps_nil) rfl rfl (by simp) (by show 1 ≤ 15; decide)) (by rfl) h2) fun D σ H ⟨ρ, F, H0, er, h⟩ => ?_
  unfold evS at h
  intro q hq
  have s0 := upd_same_grow (o := .dK []) hq
  refine ⟨ρ, F, H0, er.grow s0, (RP.bind h).mono fun y hy v1 H1 s1 r1 i1 => ?_⟩
  obtain ⟨k, ek, hy2⟩ := intV_okD (RP.bind hy)
  subst ek
  have e1 := two_int i1
  subst e1
  refine ⟨ρ, F, H0, (er.grow s0).grow s1, (RP.bind hy2).mono fun z hz v2 H2 s2 r2 i2 => ?_⟩
  obtain ⟨sc, hz⟩ := RP.guard hz
  have e2 := sc_rep sc r2.1
  subst e2
  have hq2 : H2 q = some (.dK []) := s2 _ _ (s1 _ _ upd_same)
  refine ⟨hq2, [(Sum.inl k, vS z)], rfl, by show 1 ≤ 15; decide, ?_⟩
  have sm : Same H (upd H2 q (.dK (mergeK [] [(Sum.inl k, vS z)]))) := fun d o ed => by
    have ne : d ≠ q := fun t => by rw [t, hq] at ed; cases ed
    rw [upd_ne ne]
    exact s2 _ _ (s1 _ _ (s0 _ _ ed))
  have al : ([(k, z)] : List (Int × PyData)).all (fun kv => (scV kv.2).isSome) = true := by
    rw [List.all_cons, sc]; rfl
  exact hz _ _ (er.setOwnG sm i hq ⟨_, dkO_of (unD_dL al), upd_same, fun t => by rw [isM_dL] at t; cases t⟩)
theorem slot_ok {ρ : PEnv} {W : XW} {i : Nat} {α : Type} {k : List (PyData × PyData) → R α} {P : α → Prop} (h : RP W ((optR ρ[i]?).bind fun sl => (dslot sl).bind k) P) : ∃ ks, ρ[i]? = some (some (true, .dict ks)) ∧ RP W (k ks) P := by
  obtain ⟨sl, e, h⟩ := optR_ok (RP.bind h)
  cases sl with
  | none => exact False.elim h
  | some bp =>
    obtain ⟨bb, q⟩ := bp
    cases bb with
    | false => exact False.elim h
    | true => cases q with
      | dict ks => exact ⟨ks, e, h⟩
      | _ => exact False.elim h
theorem ss_dput {i : Nat} (hN : T.N[i]? = some x) (hv : visB T.scope x = true) (hn : nameB x = true) (hb : SE T b ib) (ha : SE T a ie) (nc : notComp a = true) : SS T fr (.Assign [.Subscript (.Name x p) b p2] a pos) (.dput i ib ie) := fun Y W Φ w X ok => by
  obtain ⟨n1, n2, _⟩ := nameB_ok hn
  refine PS.imp (ps_dput (by have := ok.units; omega) (pe_var (by rw [ok.N]; exact hN) (by rw [ok.sc]; exact visB_ok hv) n1 n2) (hb.2 Y W Φ X ok) (ha.2 Y W Φ X ok) (notComp_sw nc _ _ _)) fun D σ H ⟨ρ, F, H0, er, h⟩ => ?_
  unfold evS at h
  refine ⟨ρ, F, H0, er, (RP.bind h).mono fun q hq v1 H1 s1 r1 i1 => ?_⟩
  obtain ⟨ks, es, hq⟩ := slot_ok hq
  have er1 := er.grow s1
  obtain ⟨ad, e1, _, _, ow⟩ := er1.ow i _ es
  refine ⟨_, e1, ρ, F, H0, er1, (RP.bind hq).mono fun y hy v2 H2 s2 r2 i2 => ?_⟩
  obtain ⟨k, rfl, hy⟩ := intV_okD (RP.bind hy)
  have e2 := two_int i2
  subst e2
  obtain ⟨l, eu, hy⟩ := optR_ok (RP.bind hy)
  obtain ⟨c, hy⟩ := RP.guard hy
  rw [Bool.and_eq_true] at c
  have e3 := sc_rep c.1 r1.1
  subst e3
  have er2 := er1.grow s2
  obtain ⟨o, ok1, hd, _⟩ := ow
  obtain ⟨l', eu', rfl⟩ := dkO_un (by rw [eu]; rfl) ok1
  rw [eu] at eu'
  cases eu'
  have sc := putI_sc (k := k) (unD_sc eu) c.1
  have dk : dkO (reD ks (putI l k q)) = some (.dK (putK (l.map dkv) (Sum.inl k : Key) (vS q))) := by rw [putI_map]; exact dkO_of (unD_reD sc)
  refine ⟨ad, _, rfl, DPut.k (k := (Sum.inl k : Key)) (s2 _ _ hd) ?_, hy _ _ (er2.mutateD es e1 dk isM_reD)⟩
  rw [List.length_map, sizeLine_eq]
  have := of_decide_eq_true (show decide (l.length ≤ 16000000) = true from c.2)
  omega
theorem ss_cref {n i : Nat} {I : FnI} {y : Str} {p3 : Pos} (hcm : T.cm = true) (hg : gloB T.scope x = true) (hn : nameB x = true) (hf : T.fnr.lookup x = some (n, I)) (hN : T.N[i]? = some y) (hv : visB T.scope y = true) (hn2 : nameB y = true) (hs : SA T es is) (hl : is.length + 1 = I.ps.length) :
    SS T fr (.Expr (.Call (.Name x p) (.Name y p2 :: es) [] p3) pos) (.cref i n is) := fun Y W Φ w X ok => by
  obtain ⟨m1, m2, _⟩ := nameB_ok hn2
  obtain ⟨n1, _, _⟩ := nameB_ok hn
  obtain ⟨f, fd, hm, hk, G, hb⟩ := ok.fnr x n I hf
  have args : PA X (.Name y p2 :: es) _ := pa_cons (pe_var (by rw [ok.N]; exact hN) (by rw [ok.sc]; exact visB_ok hv) m1 m2) (hs.2 Y W Φ X ok) rfl
  refine PS.imp (ps_expr (pe_callH G (ok.room hcm) (gloB_ok ok hg) hm hk hb .nil ok.pass args n1 rfl (plainEs_star _ _ hs.1)) (by rfl)) fun D σ H ⟨ρ, F, H0, er, h⟩ => ?_
  unfold evS at h
  obtain ⟨ks, es', h⟩ := slot_ok h
  obtain ⟨l, eu, h⟩ := optR_ok (RP.bind h)
  obtain ⟨ad, e1, nF, n0, ow⟩ := er.ow i _ es'
  obtain ⟨o, ok1, hd, hm2⟩ := ow
  obtain ⟨l', eu', rfl⟩ := dkO_un (by rw [eu]; rfl) ok1
  rw [eu] at eu'
  cases eu'
  refine ⟨_, e1, ρ, F, H0, er, (evEs_len (RP.bind h)).mono fun ps ⟨el, hp⟩ vs H1 s1 r1 => ?_⟩
  obtain ⟨nl, hp⟩ := RP.guard hp
  have er1 := er.grow s1
  have sc := unD_sc eu
  refine ⟨(er.bs.trans er.same).trans s1, by show (vs ++ []).length + 1 = _; rw [List.append_nil, r1.length, el]; exact hl, F, dL l, ps, ad, _, vs, by rw [List.append_nil], dkO_of (unD_dL sc), by rw [unD_dL sc]; rfl, isM_dL l, s1 _ _ hd, er1.ft, nF, reps_noLists _ _ nl r1, ?_⟩
  have hp := RP.bind hp
  cases eq : Φ n (.dict (dL l) :: ps) with
  | bad => rw [eq] at hp; exact hp.elim
  | ex c as => rw [eq] at hp; exact hp.elim
  | ok z =>
    rw [eq] at hp
    intro ks' o' H' ez em ed hk' ha'
    subst ez
    obtain ⟨ks2, l2, e2, eu2, hp⟩ := dictV_ok (RP.bind hp)
    cases e2
    rw [dkO_of eu2] at ed
    cases ed
    have dk : dkO (reD ks l2) = some (.dK (l2.map dkv)) := dkO_of (unD_reD (unD_sc eu2))
    have er2 := er1.mutateD es' e1 dk isM_reD
    refine hp _ _ (er2.grow fun b ob eb => ?_)
    by_cases e : b = ad
    · rw [e, upd_same] at eb
      cases eb
      rw [e]; exact ha'
    · rw [upd_ne e] at eb
      exact hk' b ob e eb
end
end L2.Pu
namespace L2.Pu
open PySem PySem.Spec PyProof.Rows
/-! ### dicts of one's own whose keys are rows of ints -/
def kvI (k : List Int) : List Key := k.map .inl
theorem kvI_V (k : List Int) : (kvI k).map kV = k.map V.int := by
  unfold kvI
  rw [List.map_map]
  rfl
theorem kvI_inj {a b : List Int} (h : kvI a = kvI b) : a = b := by
  unfold kvI at h
  exact List.map_inj_right (fun _ _ z => Sum.inl.inj z) |>.mp h
theorem valT_map (l : List (List Int × PyData)) (k : List Int) : valV (l.map dtv) (kvI k) = (valT l k).map vS := by
  induction l with
  | nil => rfl
  | cons q l ih =>
    by_cases h : q.1 = k
    · rw [List.map_cons, valV_pos (show (dtv q).1 = kvI k by show kvI q.1 = _; rw [h])]
      unfold valT
      rw [List.find?_cons, decide_eq_true h]; rfl
    · rw [List.map_cons, valV_neg (fun z => h (kvI_inj z)), ih]
      unfold valT
      rw [List.find?_cons, decide_eq_false h]
theorem dec_keyT {a k : List Int} : decide (kvI a = kvI k) = decide (a = k) := decide_eq_decide.mpr ⟨fun z => kvI_inj z, fun z => by rw [z]⟩
theorem anyT_map (l : List (List Int × PyData)) (k : List Int) : ((l.map dtv).any fun kv => decide (kv.1 = kvI k)) = l.any fun kv => decide (kv.1 = k) := by
  induction l with
  | nil => rfl
  | cons q l ih =>
    rw [List.map_cons, List.any_cons, List.any_cons, ih]
    exact congrArg (· || _) dec_keyT
theorem putT_map (l : List (List Int × PyData)) (k : List Int) (v : PyData) : putK (l.map dtv) (kvI k) (vS v) = (putT l k v).map dtv := by
  unfold putK putT
  rw [anyT_map]
  by_cases h : (l.any fun kv => decide (kv.1 = k)) = true
  · rw [if_pos h, if_pos h, List.map_map, List.map_map]
    refine List.map_congr_left fun q _ => ?_
    show (if (dtv q).1 = kvI k then ((dtv q).1, vS v) else dtv q) = dtv (if q.1 = k then (q.1, v) else q)
    by_cases e : q.1 = k
    · rw [if_pos e, if_pos (show (dtv q).1 = kvI k by show kvI q.1 = _; rw [e])]; rfl
    · rw [if_neg e, if_neg (show ¬ (dtv q).1 = kvI k from fun z => e (kvI_inj z))]
  · rw [if_neg h, if_neg h, List.map_append]; rfl
theorem putT_sc {l : List (List Int × PyData)} {k : List Int} {v : PyData} (h : l.all (fun kv => (scV kv.2).isSome) = true) (hv : (scV v).isSome = true) : (putT l k v).all (fun kv => (scV kv.2).isSome) = true := by
  rw [List.all_eq_true] at h ⊢
  intro q hq
  unfold putT at hq
  by_cases c : (l.any fun kv => decide (kv.1 = k)) = true
  · rw [if_pos c] at hq
    obtain ⟨r, hr, e⟩ := List.mem_map.mp hq
    by_cases e2 : r.1 = k
    · rw [if_pos e2] at e; subst e; exact hv
    · rw [if_neg e2] at e; subst e; exact h _ hr
  · rw [if_neg c] at hq
    rcases List.mem_append.mp hq with z | z
    · exact h _ z
    · rw [List.mem_singleton.mp z]; exact hv
theorem valT_sc {l : List (List Int × PyData)} {k : List Int} {z : PyData} (h : l.all (fun kv => (scV kv.2).isSome) = true) (e : valT l k = some z) : (scV z).isSome = true := by
  unfold valT at e
  cases f : l.find? fun kv => decide (kv.1 = k) with
  | none => rw [f] at e; cases e
  | some q =>
    rw [f] at e
    cases e
    exact List.all_eq_true.mp h _ (List.mem_of_find?_eq_some f)
theorem dkO_ofT {ks : List (PyData × PyData)} {l : List (List Int × PyData)} (h : unT ks = some l) : dkO ks = some (.dT (l.map dtv)) := by
  unfold dkO; rw [h]
theorem tdV_ok {W : XW} {x : PyData} {P : List (List Int × PyData) → Prop} (h : RP W (tdV x) P) : ∃ ks l, x = .dict ks ∧ unT ks = some l ∧ P l := by
  cases x with
  | dict ks =>
    have h : RP W (optR (unT ks)) P := h
    cases e : unT ks with
    | none => rw [e] at h; exact h.elim
    | some l => rw [e] at h; exact ⟨ks, l, rfl, e, h⟩
  | _ => exact False.elim h
theorem keyV_ok {W : XW} {x : PyData} {P : List Int → Prop} (h : RP W (keyV x) P) : ∃ k : List Int, x = tkP k ∧ P k := by
  cases x with
  | tuple ps =>
    obtain ⟨k, e, h⟩ := optR_ok (show RP W (optR (intsK ps)) P from h)
    exact ⟨k, by unfold tkP; rw [intsK_of e], h⟩
  | _ => exact False.elim h
/-- a dict as it is read -/
theorem dictT_at {K : PySem.W.Frag} {G : Addr → Prop} {H : Hp} {ks : List (PyData × PyData)} {l : List (List Int × PyData)} {v : V} (e : unT ks = some l) (h : RepI K G H (.dict ks) v) : ∃ a, v = .ref a ∧ H a = some (.dT (l.map dtv)) := by
  have h : Rep K (fun _ => False) H (.dict ks) v := h
  unfold Rep at h
  obtain ⟨a, ev, g⟩ := h
  refine ⟨a, ev, ?_⟩
  rcases g with g | g
  · obtain ⟨c, as, ek, _⟩ := g
    rw [ek] at e
    have e : (none : Option (List (List Int × PyData))) = some l := e
    cases e
  · obtain ⟨o, g1, g2, _⟩ := g
    rw [dkO_ofT e] at g1
    cases g1
    exact g2
theorem ints_vals {K : PySem.W.Frag} {G : Addr → Prop} {H : Hp} : ∀ {k : List Int} {vs : List V}, Reps K G H (k.map .int) vs → vs = k.map V.int
  | [], [], _ => rfl
  | i :: k, v :: vs, h => by
    have h : Reps K G H (.int i :: k.map .int) (v :: vs) := h
    unfold Reps at h
    have e1 := rep_int_v h.1
    rw [e1, ints_vals h.2]; rfl
  | [], _ :: _, h => by
    have h : Reps K G H [] _ := h
    unfold Reps at h; exact h.elim
  | i :: k, [], h => by
    have h : Reps K G H (.int i :: k.map .int) [] := h
    unfold Reps at h; exact h.elim
theorem mem_lookK : ∀ {K : PySem.W.Frag} {a : Addr} {o : Obj}, K.lookup a = some o → (a, o) ∈ K
  | [], _, _, h => by cases h
  | (b, p) :: K, a, o, h => by
    unfold List.lookup at h
    cases e : a == b with
    | true =>
      rw [e] at h
      have := eq_of_beq e
      cases h
      rw [this]
      exact List.mem_cons_self
    | false => rw [e] at h; exact List.mem_cons_of_mem _ (mem_lookK h)
/-- a key is a tuple that is tracked -/
theorem key_at {K : PySem.W.Frag} {G : Addr → Prop} {H : Hp} {k : List Int} {v : V} (nk : K.all noKey1 = true) (kk : keyK k = true) (h : Rep K G H (tkP k) v) : ∃ b, v = .ref b ∧ H b = some (.tup ((kvI k).map kV)) := by
  unfold tkP at h
  unfold Rep at h
  obtain ⟨b, vs, ev, sq, r⟩ := h
  have e := ints_vals r
  subst e
  refine ⟨b, ev, ?_⟩
  rw [kvI_V]
  rcases sq with h | ⟨o, its, n, h1, h2, h3, h4, h5⟩
  · exact h
  · exfalso
    have q := List.all_eq_true.mp nk (b, o) (mem_lookK h1)
    cases k with
    | nil => cases kk
    | cons i k =>
      have kk : (decide (1 ≤ i) && decide (k.length ≤ 2)) = true := kk
      have h5 : Vals (V.int i :: k.map V.int) its.toList := h5
      cases e2 : its.toList with
      | nil => rw [e2] at h5; cases h5
      | cons u us =>
        rw [e2] at h5
        cases h5 with
        | cons ru rus =>
          obtain ⟨t, rfl⟩ := ru
          have hl := rus.length
          rw [List.length_map] at hl
          unfold noKey1 at q
          simp only [h2, h3, e2] at q
          rw [← hl, kk] at q
          exact absurd q (by decide)
/-! ### sorted(d): its keys -/
section
variable {X : Cx}
def rSortDT (K : PySem.W.Frag) : List V → Hp → VK → Prop := fun vs H Q => ∃ (a : Addr) (kvs : List (List Key × V)) (shape : Nat → Bool), vs = [.ref a] ∧ Rd H a (.dT kvs) ∧ (∀ p ∈ kvs, p.1 ≠ [] ∧ ∃ l, vItems shape 0 (p.1.map kV) = some l) ∧
  ∀ (bs : List Addr), IsKeys H kvs bs → ∀ k : V → TK, (∀ t its l, SqT K H t its → vItems shape 0 its = some l → k (.ref t) = l) → ∀ ys p, SrtO.Srtd (fun x y => ltK (k x) (k y)) ys → SrtO.Stb (fun x y => ltK (k x) (k y)) ys (bs.map V.ref) → H p = none → Q (.ref p) (upd H p (.lst ys))
theorem isKeys_mem {H : Hp} {kvs : List (List Key × V)} {bs : List Addr} (h : IsKeys H kvs bs) : ∀ b ∈ bs, ∃ p ∈ kvs, H b = some (.tup (p.1.map kV)) := by
  unfold IsKeys at h
  induction h with
  | nil => intro b hb; cases hb
  | @cons p b ps bs h t ih =>
    intro c hc
    rcases List.mem_cons.mp hc with rfl | hc
    · exact ⟨p, List.mem_cons_self, h⟩
    · obtain ⟨q, hq, e⟩ := ih c hc
      exact ⟨q, List.mem_cons_of_mem _ hq, e⟩
theorem call_sortedDT (hcalm : X.calm = true) : CallR X (.builtin "sorted") (rSortDT X.K) := by
  intro pins s σ H xs us Q I r h
  obtain ⟨d, kvs, shape, rfl, hd, hkv, q⟩ := h
  obtain ⟨u, rfl, rx⟩ := vals1 r
  cases rx
  obtain ⟨z, hs, ks, pr, o, es, ep, ho, hx, hdt, he, hn⟩ := (show ObjOk X.prog X.w H s.heap d (.dT kvs) from hd.ok I.hok)
  have l1 : es.size = ks.length := size_of_entries he
  have l2 : kvs.length = ks.length := Paired.length pr
  have hIK := isKeys_of pr
  refine Calls.call_function_entry PyProof.Rows.kind_sorted PyProof.Rows.plain_sorted PyProof.Rows.entry_sorted (PyProof.Rows.args_sorted1 _) ?_
  unfold Builtin.«sorted»
  refine wpAny_bind (m := checkCount "sorted" 1 1 _) (wpAny_pure ?_)
  refine wpAny_bind (PySem.W.kdu_collect (A := X.A.in1) (kdl_raw hs hx hdt) (I.ok.hd hcalm) ho (by omega) fun h' tk acc kp it => ?_)
  have ea : acc.toList = ks.map fun x => Value.ref x.2.1 := by
    have hl : acc.toList.length = ks.length := by rw [Array.length_toList, it.1]; exact l1
    apply List.ext_getElem?
    intro j
    rw [List.getElem?_map]
    cases hj : acc.toList[j]? with
    | none =>
      have h1 := List.getElem?_eq_none_iff.mp hj
      rw [List.getElem?_eq_none (by omega)]
      all_goals rfl
    | some v =>
      obtain ⟨en, hen, hv⟩ := it.2 j v (by rw [← Array.getElem?_toList]; exact hj)
      have qe := entry_at he j
      rw [hen] at qe
      cases hb : ks[j]? with
      | none =>
        rw [hb] at qe
        exact nomatch (show some en = none from qe)
      | some b =>
        rw [hb] at qe
        have e2 : en = entryOfKey (tupleKind (mixKind X.prog X.w)) b := Option.some.inj qe
        rw [hv, e2]
        all_goals rfl
  generalize hbs : ks.map (fun x => x.2.1) = bs at hIK
  have eb : acc.toList = bs.map Value.ref := by rw [ea, ← hbs, List.map_map]; all_goals rfl
  have lb : bs.length = ks.length := by rw [← hbs, List.length_map]
  have I1 : Inv X pins σ H { s with heap := h', toks := tk } := I.kept kp
  have hz : acc.toList.length ≤ sizeLine := by rw [eb, List.length_map]; omega
  have kk0 : ∀ t its l, SqT X.K H t its → vItems shape 0 its = some l → kOf h' shape (.ref t) = l := fun t its l ht hk => by
    obtain ⟨us', r2, ⟨o, ho, hc, n, hd⟩, _⟩ := I1.tuple ht
    have hi := vItems_ok r2 hk
    show (PyProof.Rows.tupKey h' shape (.ref t)).getD [] = l
    have : PyProof.Rows.tupKey h' shape (.ref t) = some l := by
      show (match h'.get? t with | some o => _ | none => none) = _
      rw [show h'.get? t = some o from ho]
      simp only [hd]
      exact hi
    rw [this]; rfl
  have q := q bs hIK _ kk0
  generalize hkdef : kOf h' shape = k at *
  have hp : ∀ v ∈ acc.toList, SrtO.TupA h' shape v (k (backV v)) := fun v hv => by
    rw [eb] at hv
    obtain ⟨t, ht, rfl⟩ := List.mem_map.mp hv
    obtain ⟨p, hp, et⟩ := isKeys_mem hIK t ht
    obtain ⟨hne, l, hl⟩ := hkv p hp
    have el : k (backV (Value.ref t)) = l := kk0 t _ l (.inl (.inl et)) hl
    obtain ⟨us', r2, ⟨o, ho, hc, n, hd⟩, _⟩ := I1.tuple (show SqT X.K H t (p.1.map kV) from .inl (.inl et))
    have hi := vItems_ok r2 hl
    cases us' with
    | nil =>
      have := r2.length
      rw [List.length_map] at this
      exact absurd (List.length_eq_zero_iff.mp this) hne
    | cons f us' => exact ⟨t, o, _, n, f, rfl, ho, hc, hd, by simp, by rw [el]; exact hi⟩
  refine wpAny_bind (wpAny_newList ?_ hz)
  have hoL : (h'.push (seqObj "list" acc.toList.toArray 0)).get? h'.objs.size = some (seqObj "list" acc.toList.toArray 0) := Heap.get?_push_size _ rfl
  show wpAny _ _ _ _ _ { s with heap := h'.push (seqObj "list" acc.toList.toArray 0), toks := tk }
  refine wpAny_bind (wpAny_holding (wpAny_call_entry PyProof.Rows.slot_list_sort ⟨_, hoL, rfl⟩ PyProof.Rows.entry_list_sort
    (SrtO.list_sort_ord (s := { s with heap := h'.push (seqObj "list" acc.toList.toArray 0), toks := tk }) (SrtO.swo_key fun u => k (backV u)) hoL hz (fun h2 => ?_) fun out g1 g2 => ⟨_, rfl, ?_⟩) (PyProof.Rows.args_list_sort _)))
  · refine SrtO.tups_sortableO (s := { s with heap := h'.push (seqObj "list" acc.toList.toArray 0), toks := tk }) (shape := shape) (by omega) (fun v hm => (hp v hm).keeps fun b o e _ => Heap.get?_push_of_some _ e) fun o e => ?_
    have e' : some o = some (seqObj "list" acc.toList.toArray 0) := e.symm.trans hoL
    cases e'
    intro c
    exact absurd (Value.type.inj c) (by decide)
  · obtain ⟨e', he'⟩ := PyProof.Rows.sortedHeap_at (vs := acc.toList) (out := out.toArray) hoL
    have h3 : ∀ u ∈ out, ∃ a, u = Value.ref a := fun u hu => by
      have := g2.perm.mem_iff.mp hu
      rw [eb] at this
      obtain ⟨t, _, rfl⟩ := List.mem_map.mp this
      exact ⟨t, rfl⟩
    have hb : SrtO.Stb (fun x y => ltK (k x) (k y)) (out.map backV) (bs.map V.ref) := by
      have e1 : bs.map V.ref = acc.toList.map backV := by rw [eb, List.map_map]; rfl
      rw [e1]
      exact SrtO.Stb.map (SrtO.swo_key k) backV g2
    refine wpAny_pure ⟨_, rfl, .ref h'.objs.size, upd H h'.objs.size (.lst (out.map backV)), I1.laid (t' := tk) (fun b u e => ?_) (Nat.le_refl _)
      (show ObjOk X.prog X.w _ _ _ (.lst (out.map backV)) from ⟨?_, out, e', vals_back h3, he'⟩), rfl, q _ _ (SrtO.srtd_map g1) hb (I1.hok.fresh (Nat.le_refl _))⟩
    · have hb : b < h'.objs.size := Heap.lt_size e
      rw [PyProof.Rows.sortedHeap_old (Nat.ne_of_lt hb) (by rw [size_push']; exact Nat.lt_succ_of_lt hb)]
      exact Heap.get?_push_of_some _ e
    · rw [hb.len, List.length_map]; omega
end
theorem reps_keys {K : PySem.W.Frag} {G : Addr → Prop} {H : Hp} : ∀ {l : List (List Int × PyData)} {bs : List Addr}, IsKeys H (l.map dtv) bs → Reps K G H (l.map fun kv => tkP kv.1) (bs.map V.ref)
  | [], _, h => by
    unfold IsKeys at h
    cases h
    show Reps K G H [] []
    unfold Reps; trivial
  | q :: l, _, h => by
    unfold IsKeys at h
    rw [List.map_cons] at h
    cases h with
    | cons h t =>
      show Reps K G H (tkP q.1 :: l.map fun kv => tkP kv.1) (_ :: _)
      unfold Reps
      refine ⟨?_, reps_keys (by unfold IsKeys; exact t)⟩
      unfold tkP Rep
      refine ⟨_, _, rfl, .of h, ?_⟩
      show Reps K G H (q.1.map .int) ((kvI q.1).map kV)
      rw [kvI_V]
      exact reps_intsQ _
theorem repI_tk {K : PySem.W.Frag} {G : Addr → Prop} {H : Hp} {k : List Int} {v : V} (h : RepI K G H (tkP k) v) : Rep K G H (tkP k) v := h
section
variable {T : Tb} {x : Str} {pos p2 p apos : Pos} {a b c e : Expr} {ia ib ic ie : E} {fr : Bool} {es : List Expr} {is : List E}
theorem se_tget (tn : T.tn ≠ []) (ha : SE T a ia) (hb : SE T b ib) : SE T (.Subscript a b pos) (.tget ia ib) := by
  refine ⟨rfl, fun Y W Φ X ok => PE.imp (pe_dget (by have := ok.units; omega) (ha.2 Y W Φ X ok) (hb.2 Y W Φ X ok) (plainE_ix hb.1)) fun σ H Q ⟨ρ, F, H0, er, h⟩ => ?_⟩
  unfold evE at h
  refine ⟨ρ, F, H0, er, (RP.bind h).mono fun z hz v1 H1 s1 r1 i1 => ⟨ρ, F, H0, er.grow s1, (RP.bind hz).mono fun y hy v2 H2 s2 r2 i2 => ?_⟩⟩
  obtain ⟨ks, l, rfl, eu, hy⟩ := tdV_ok (RP.bind hy)
  obtain ⟨k, ek, hy2⟩ := keyV_ok (RP.bind hy)
  subst ek
  obtain ⟨kk, hy⟩ := RP.guard (show RP W (guardR (keyK k) (optR (valT l k))) _ from hy2)
  obtain ⟨q, eq, hy⟩ := optR_ok (show RP W (optR (valT l k)) _ from hy)
  obtain ⟨ad, rfl, hd⟩ := dictT_at eu i1
  obtain ⟨bd, rfl, hb⟩ := key_at (ok.nk tn) kk (repI_tk i2)
  have sc := valT_sc (unT_sc eu) eq
  have g := DGet.t (s2 _ _ hd) hb
  rw [valT_map, eq] at g
  exact ⟨ad, vS q, rfl, g, hy _ H2 (s1.trans s2) (repR_of (rep_sc sc) (sc_notList sc)) (sc_RI sc)⟩
theorem se_tgt2 (tn : T.tn ≠ []) (hs : noSup a = true) (ha : SE T a ia) (hb : SE T b ib) (hc : SE T c ic) (hline : (apos.endLine == p2.line) = true) : SE T (.Call (.Attribute a "get" apos) [b, c] [] p2) (.tgt2 ia ib ic) := by
  refine ⟨rfl, fun Y W Φ X ok => PE.imp (pe_dget2 (by have := ok.units; omega) (ha.2 Y W Φ X ok) (hb.2 Y W Φ X ok) (hc.2 Y W Φ X ok) ⟨noSup_base hs _ _, ?_, hline, ?_⟩) fun σ H Q ⟨ρ, F, H0, er, h⟩ => ?_⟩
  · rw [plainE_star hb.1, plainE_star hc.1]; rfl
  · rw [plainE_star hb.1, plainE_star hc.1]; rfl
  unfold evE at h
  refine ⟨ρ, F, H0, er, (RP.bind h).mono fun z hz v1 H1 s1 r1 i1 => ?_⟩
  obtain ⟨ks, l, rfl, eu, hz⟩ := tdV_ok (RP.bind hz)
  obtain ⟨ad, rfl, hd⟩ := dictT_at eu i1
  refine ⟨ad, rfl, .inr ⟨_, .inl hd⟩, ρ, F, H0, er.grow s1, (RP.bind hz).mono fun y hy v2 H2 s2 r2 i2 => ?_⟩
  obtain ⟨k, ek, hy2⟩ := keyV_ok (RP.bind hy)
  subst ek
  refine ⟨ρ, F, H0, (er.grow s1).grow s2, (RP.bind hy2).mono fun q hq v3 H3 s3 r3 i3 => ?_⟩
  obtain ⟨kc, hq⟩ := RP.guard (show RP W (guardR (keyK k && (scV q).isSome) (.ok ((valT l k).getD q))) _ from hq)
  rw [Bool.and_eq_true] at kc
  obtain ⟨kk, sc⟩ := kc
  have e3 := sc_rep sc r3.1
  subst e3
  obtain ⟨bd, rfl, hb⟩ := key_at (ok.nk tn) kk (repI_tk i2)
  have g := DGet.t (s3 _ _ (s2 _ _ hd)) (s3 _ _ hb)
  rw [valT_map] at g
  have sm := s1.trans (s2.trans s3)
  refine ⟨_, g, ?_⟩
  cases eq : valT l k with
  | none =>
    rw [eq] at hq
    exact hq _ H3 sm (repR_of (rep_sc sc) (sc_notList sc)) (sc_RI sc)
  | some z =>
    rw [eq] at hq
    have sz := valT_sc (unT_sc eu) eq
    exact hq _ H3 sm (repR_of (rep_sc sz) (sc_notList sz)) (sc_RI sz)
theorem se_tsrt (hcm : T.cm = true) (hg : gloB T.scope "sorted" = true) (hb : ("sorted" : Str) ∈ T.blts) (ha : SE T a ia) : SE T (.Call (.Name "sorted" p) [a] [] pos) (.tsrt ia) := by
  refine ⟨rfl, fun Y W Φ X ok => PE.imp (pe_callB (call_sortedDT (ok.calm hcm)) (gloB_ok ok hg) (ok.blt _ hb) (by decide +kernel) (pa_cons (ha.2 Y W Φ X ok) pa_nil (plainE_star ha.1 _ _)) (by decide) (by decide) (plainE_star ha.1 _ _) (by rfl)) fun σ H Q ⟨ρ, F, H0, er, h⟩ => ?_⟩
  unfold evE at h
  refine ⟨ρ, F, H0, er, (RP.bind h).mono fun z hz v1 H1 s1 r1 i1 => ?_⟩
  obtain ⟨ks, l, rfl, eu, hz⟩ := tdV_ok (RP.bind hz)
  obtain ⟨ad, rfl, hd⟩ := dictT_at eu i1
  unfold tsrtV at hz
  obtain ⟨c, hz⟩ := RP.guard hz
  rw [List.all_eq_true] at c
  have nn : ∀ kv ∈ l, kv.1 ≠ [] := fun kv hm e => by have := c kv hm; rw [e] at this; cases this
  have vi : ∀ k : List Int, vItems (fun _ => false) 0 (k.map V.int) = some (k.map Sum.inl) := by
    have : ∀ (k : List Int) (i : Nat), vItems (fun _ => false) i (k.map V.int) = some (k.map Sum.inl) := fun k => by
      induction k with
      | nil => intro i; rfl
      | cons n k ih =>
        intro i
        show (if false = true then none else (vItems (fun _ => false) (i + 1) (k.map V.int)).map (Sum.inl n :: ·)) = _
        rw [if_neg (by decide), ih]; rfl
    exact fun k => this k 0
  refine ⟨ad, l.map dtv, fun _ => false, rfl, .inl hd, fun q hq => ?_, fun bs ik k hk ys q s2 s3 hq => ?_⟩
  · obtain ⟨kv, hm, rfl⟩ := List.mem_map.mp hq
    refine ⟨fun e => nn kv hm ?_, kv.1.map Sum.inl, ?_⟩
    · exact List.map_eq_nil_iff.mp (show kv.1.map (Sum.inl (β := Str)) = [] from e)
    · show vItems (fun _ => false) 0 ((kvI kv.1).map kV) = _
      rw [kvI_V]
      exact vi kv.1
  · have rk : Reps X.K (FX F [] σ ρ) H1 (l.map fun kv => tkP kv.1) (bs.map V.ref) := reps_keys ik
    have key : ∀ (i : Nat) (y : PyData) (u : V), (l.map fun kv => tkP kv.1)[i]? = some y → (bs.map V.ref)[i]? = some u → k u = tupKeyP y := fun i y u h1 h2 => by
      rw [List.getElem?_map] at h1
      cases e1 : l[i]? with
      | none => rw [e1] at h1; cases h1
      | some kv =>
        rw [e1] at h1
        cases h1
        obtain ⟨w, ew, rw1⟩ := rk.get (show (l.map fun kv => tkP kv.1)[i]? = some (tkP kv.1) by rw [List.getElem?_map, e1]; rfl)
        rw [h2] at ew
        cases ew
        unfold tkP Rep at rw1
        obtain ⟨t, its, rfl, sq, ri⟩ := rw1
        have ei := ints_vals ri
        subst ei
        rw [hk t _ _ sq.sq (vi kv.1)]
        show kv.1.map Sum.inl = (kv.1.map PyData.int).filterMap keyI
        rw [List.filterMap_map, ← List.filterMap_eq_map]
        rfl
    obtain rfl := sortG_one (swo_ltK k) s2 s3
    have R := new_list (K := X.K) (G := FX F [] σ ρ) hq ((er.grow s1).ftX []) (reps_sort rk key).1
    exact hz (.ref q) _ (s1.trans (upd_same_grow hq)) (R.sub (fun _ z => z) s1) (.of R.1)
/-! ### statements -/
theorem ss_tnew {i : Nat} (hN : T.N[i]? = some x) (hl : locB T x = true) : SS T fr (.Assign [.Name x p] (.Dict [] [] p2) pos) (.tnew i) := fun Y W Φ w X ok => by
  obtain ⟨h1, h2⟩ := locB_ok ok hl
  refine PS.imp (ps_set (by rw [ok.N]; exact ok.nd) (by rw [ok.N]; exact hN) h1 pe_dnewT (by rfl) h2) fun D σ H ⟨ρ, F, H0, er, h⟩ => ?_
  unfold evS at h
  exact fun q hq => h _ _ (er.setOwnG (upd_same_grow hq) i hq ⟨_, rfl, upd_same, fun z => Bool.noConfusion z⟩)
theorem ss_tput {i : Nat} (tn : T.tn ≠ []) (hN : T.N[i]? = some x) (hv : visB T.scope x = true) (hn : nameB x = true) (hb : SE T b ib) (ha : SE T a ie) (nc : notComp a = true) : SS T fr (.Assign [.Subscript (.Name x p) b p2] a pos) (.tput i ib ie) := fun Y W Φ w X ok => by
  obtain ⟨n1, n2, _⟩ := nameB_ok hn
  refine PS.imp (ps_dput (by have := ok.units; omega) (pe_var (by rw [ok.N]; exact hN) (by rw [ok.sc]; exact visB_ok hv) n1 n2) (hb.2 Y W Φ X ok) (ha.2 Y W Φ X ok) (notComp_sw nc _ _ _)) fun D σ H ⟨ρ, F, H0, er, h⟩ => ?_
  unfold evS at h
  refine ⟨ρ, F, H0, er, (RP.bind h).mono fun q hq v1 H1 s1 r1 i1 => ?_⟩
  obtain ⟨ks, es, hq⟩ := slot_ok hq
  have er1 := er.grow s1
  obtain ⟨ad, e1, _, _, ow⟩ := er1.ow i _ es
  refine ⟨_, e1, ρ, F, H0, er1, (RP.bind hq).mono fun y hy v2 H2 s2 r2 i2 => ?_⟩
  obtain ⟨k, ek, hy2⟩ := keyV_ok (RP.bind hy)
  subst ek
  obtain ⟨l, eu, hy⟩ := optR_ok (RP.bind hy2)
  obtain ⟨c, hy⟩ := RP.guard hy
  rw [Bool.and_eq_true, Bool.and_eq_true] at c
  have e3 := sc_rep c.2.1 r1.1
  subst e3
  have er2 := er1.grow s2
  obtain ⟨bd, rfl, hb⟩ := key_at (ok.nk tn) c.1 (repI_tk i2)
  obtain ⟨o, ok1, hd, hm⟩ := ow
  rw [dkO_ofT eu] at ok1
  cases ok1
  have sc := putT_sc (k := k) (unT_sc eu) c.2.1
  have dk : dkO (tL (putT l k q)) = some (.dT (putK (l.map dtv) (kvI k) (vS q))) := by rw [putT_map]; exact dkO_ofT (unT_tL sc)
  have im : isM (tL (putT l k q)) = isM ks := by
    cases ks with
    | nil => cases eu
    | cons z ks =>
      obtain ⟨z1, z2⟩ := z
      cases z1 with
      | bool bb => rfl
      | _ => cases eu
  refine ⟨ad, _, rfl, DPut.t (s2 _ _ hd) hb ?_, hy _ _ (er2.mutateD es e1 dk im)⟩
  rw [List.length_map, sizeLine_eq]
  have := of_decide_eq_true (show decide (l.length ≤ 16000000) = true from c.2.2)
  omega
end
end L2.Pu
namespace L2.Pu
open PySem PySem.Spec PyProof.Rows
/-! ### a dict lent behind the first value, and a value told -/
theorem pairV_ok {W : XW} {x : PyData} {P : List (Int × PyData) × PyData → Prop} (h : RP W (pairV x) P) : ∃ ks l q, x = .tuple [.dict ks, q] ∧ unD ks = some l ∧ isM ks = false ∧ noList q = true ∧ P (l, q) := by
  unfold pairV at h
  split at h
  · rename_i ks q
    obtain ⟨c, h⟩ := RP.guard h
    rw [Bool.and_eq_true, Bool.not_eq_true'] at c
    obtain ⟨l, e, h⟩ := optR_ok (RP.bind h)
    exact ⟨ks, l, q, rfl, e, c.2, c.1, h⟩
  · exact False.elim h
section
variable {T : Tb} {x : Str} {pos p2 p apos : Pos} {a b c e : Expr} {ia ib ic ie : E} {fr : Bool} {es : List Expr} {is : List E}
theorem ss_crfv {n i j : Nat} {I : FnI} {y z : Str} {p3 pz : Pos} (hcm : T.cm = true) (hg : gloB T.scope x = true) (hn : nameB x = true) (hf : T.fnv.lookup x = some (n, I)) (hN : T.N[i]? = some y) (hv : visB T.scope y = true) (hn2 : nameB y = true) (ha : SE T a ia) (hs : SA T es is) (hl : is.length + 2 = I.ps.length)
    (hz : T.N[j]? = some z) (hlz : locB T z = true) : SS T fr (.Assign [.Name z pz] (.Call (.Name x p) (a :: .Name y p2 :: es) [] p3) pos) (.crfv j i n ia is) := fun Y W Φ w X ok => by
  obtain ⟨m1, m2, _⟩ := nameB_ok hn2
  obtain ⟨n1, _, _⟩ := nameB_ok hn
  obtain ⟨l1, l2⟩ := locB_ok ok hlz
  obtain ⟨f, fd, hm, hk, G, hb⟩ := ok.fnv x n I hf
  have args : PA X (a :: .Name y p2 :: es) _ := pa_cons (ha.2 Y W Φ X ok) (pa_cons (pe_var (by rw [ok.N]; exact hN) (by rw [ok.sc]; exact visB_ok hv) m1 m2) (hs.2 Y W Φ X ok) rfl) (plainE_star ha.1 _ _)
  refine PS.imp (ps_set (by rw [ok.N]; exact ok.nd) (by rw [ok.N]; exact hz) l1 (pe_callH G (ok.room hcm) (gloB_ok ok hg) hm hk hb .nil ok.pass args n1 (plainE_star ha.1 _ _) (plainEs_star _ _ (by
    show (plainE (.Name y p2) && es.all plainE) = true
    rw [hs.1]; rfl))) (by rfl) l2) fun D σ H ⟨ρ, F, H0, er, h⟩ => ?_
  unfold evS at h
  obtain ⟨ks, es', h⟩ := slot_ok h
  obtain ⟨l, eu, h⟩ := optR_ok (RP.bind h)
  refine ⟨ρ, F, H0, er, (RP.bind h).mono fun p0 h0 v0 H1 s1 r1 i1 => ?_⟩
  have er1 := er.grow s1
  obtain ⟨ad, e1, nF, n0, ow⟩ := er1.ow i _ es'
  obtain ⟨o, ok1, hd, hm2⟩ := ow
  rw [dkO_of eu] at ok1
  cases ok1
  refine ⟨_, e1, ρ, F, H0, er1, (evEs_len (RP.bind h0)).mono fun ps ⟨el, hp⟩ vs H2 s2 r2 => ?_⟩
  obtain ⟨nl, hp⟩ := RP.guard hp
  rw [Bool.and_eq_true] at nl
  have er2 := er1.grow s2
  have sc := unD_sc eu
  have r1' : Rep X.K (fun b => F b ∨ b = ad) H2 p0 v0 := Rep.grow s2 _ _ (rep_noList _ _ nl.1 r1.1)
  refine ⟨((er.bs.trans er.same).trans s1).trans s2, by show ((v0 :: .ref ad :: vs) ++ []).length = _; rw [List.append_nil, List.length_cons, List.length_cons, r2.length, el]; exact hl, F, dL l, p0, ps, ad, _, v0, vs, by rw [List.append_nil], dkO_of (unD_dL sc), by rw [unD_dL sc]; rfl, isM_dL l, s2 _ _ hd, er2.ft, nF, r1', reps_noLists _ _ nl.2 r2, ?_⟩
  have hp := RP.bind hp
  cases eq : Φ n (p0 :: .dict (dL l) :: ps) with
  | bad => rw [eq] at hp; exact hp.elim
  | ex c as => rw [eq] at hp; exact hp.elim
  | ok z =>
    rw [eq] at hp
    intro ks' o' q v H' ez em ed nq hk' ha' rq
    subst ez
    obtain ⟨ks2, l2, q2, e2, eu2, em2, nq2, hp⟩ := pairV_ok (RP.bind hp)
    cases e2
    rw [dkO_of eu2] at ed
    cases ed
    have dk : dkO (reD ks l2) = some (.dK (l2.map dkv)) := dkO_of (unD_reD (unD_sc eu2))
    have er3 := er2.mutateD es' e1 dk isM_reD
    have er4 := er3.grow (H' := H') fun b ob eb => by
      by_cases e : b = ad
      · rw [e, upd_same] at eb
        cases eb
        rw [e]; exact ha'
      · rw [upd_ne e] at eb
        exact hk' b ob e eb
    exact hp _ _ (er4.set j (rep_noList _ _ nq2 rq))
/-! ### the body of such a def: statements, and what it tells -/
def rdR (K : KB) (W : XW) (ev : PEnv → R Fl) (eve : PEnv → R PyData) : TS := fun D σ H => ∃ ρ F H0, EnvRep K F H0 H σ ρ ∧ RP W (ev ρ) fun fl => ∃ ρ1, fl = .nx ρ1 ∧ RP W (eve ρ1) fun p => noList p = true ∧ ∀ v H' σ', EnvRep K F H0 H' σ' ρ1 → Rep K (fun _ => False) H' p v → D.rt v H'
def SSsR (T : Tb) (st : List Stmt) (c : List S) (e : E) : Prop := ∀ (Y : Xsys) (W : XW) (Φ : Nat → List PyData → R PyData) (w : Nat) (X : Cx), CxOk Y W T Φ X → PSs X st (rdR (Y.kb X.K) W (evSs Φ w c) (evE Φ e))
theorem sssR_ret (ha : SE T a ia) : SSsR T [.Return (some a) pos] [] ia := fun Y W Φ w X ok => PSs.imp (pss_cons (ps_ret (ha.2 Y W Φ X ok)) pss_nil) fun D σ H ⟨ρ, F, H0, er, h⟩ => by
  obtain ⟨ρ1, e1, h⟩ : ∃ ρ1, Fl.nx ρ = .nx ρ1 ∧ _ := h
  cases e1
  exact ⟨ρ, F, H0, er, h.mono fun p ⟨nl, hp⟩ v H' s r i => hp v H' _ (er.grow s) (rep_noList _ _ nl r.1)⟩
theorem sssR_cons {st : Stmt} {sts : List Stmt} {s : S} {ss : List S} {e' : E} (h1 : SS T false st s) (h2 : SSsR T sts ss e') : SSsR T (st :: sts) (s :: ss) e' := fun Y W Φ w X ok => PSs.imp (pss_cons (h1 Y W Φ w X ok) (h2 Y W Φ w X ok)) fun D σ H ⟨ρ, F, H0, er, h⟩ => by
  unfold evSs at h
  refine ⟨ρ, F, H0, er, (RP.bind h).mono fun fl hfl => ?_⟩
  cases fl with
  | nx ρ1 => exact fun σ' H' er' => ⟨ρ1, F, H0, er', hfl⟩
  | rt q => obtain ⟨_, z, _⟩ := hfl; cases z
  | bk ρ1 => obtain ⟨_, z, _⟩ := hfl; cases z
  | ct ρ1 => obtain ⟨_, z, _⟩ := hfl; cases z
structure XR (T : Tb) (st : List Stmt) where
  c : List S
  e : E
  ok : SSsR T st c e
end
end L2.Pu
namespace L2.Pu
open PySem PySem.Spec PyProof.Rows
theorem reps_ints {K : PySem.W.Frag} {F : Addr → Prop} {H : Hp} : ∀ ns : List Int, Reps K F H (ns.map PyData.int) (ns.map V.int)
  | [] => by unfold Reps; trivial
  | n :: ns => by
    show Reps K F H (.int n :: ns.map PyData.int) (.int n :: ns.map V.int)
    unfold Reps
    exact ⟨rep_int, reps_ints ns⟩
/-- tuples stay -/
def Kp (H H' : Hp) : Prop := ∀ b xs, (H b = some (.tup xs) → H' b = some (.tup xs)) ∧ ∀ o, H b = some (.frz o (.tup xs)) → H' b = some (.frz o (.tup xs))
theorem Kp.of_same {H H' : Hp} (s : Same H H') : Kp H H' := fun b xs => ⟨s b _, fun o => s b _⟩
theorem Kp.trans {H H' H2 : Hp} (a : Kp H H') (b : Kp H' H2) : Kp H H2 := fun d xs => ⟨fun e => (b d xs).1 ((a d xs).1 e), fun o e => (b d xs).2 o ((a d xs).2 o e)⟩
theorem Kp.lst {H : Hp} {a : Addr} {ys : List V} {o : HO} (h : H a = some (.lst ys)) : Kp H (upd H a o) := fun b xs => ⟨fun e => by rw [upd_ne (fun z => by rw [z, h] at e; cases e)]; exact e, fun q e => by rw [upd_ne (fun z => by rw [z, h] at e; cases e)]; exact e⟩
theorem Kp.ins {H : Hp} {a C dx : Addr} {fs : List (Str × V)} {o : HO} (h : H a = some (.ins C dx fs)) : Kp H (upd H a o) := fun b xs => ⟨fun e => by rw [upd_ne (fun z => by rw [z, h] at e; cases e)]; exact e, fun q e => by rw [upd_ne (fun z => by rw [z, h] at e; cases e)]; exact e⟩
mutual
theorem rep_kp {K : PySem.W.Frag} {F F' : Addr → Prop} {H H' : Hp} (k : Kp H H') : ∀ (p : PyData) (v : V), noList p = true → Rep K F H p v → Rep K F' H' p v
  | .none, _, _, h => h
  | .bool _, _, _, h => h
  | .int _, _, _, h => h
  | .str _, _, _, h => h
  | .list _, _, n, _ => by unfold noList at n; cases n
  | .dict _, _, n, _ => by unfold noList at n; cases n
  | .tuple ps, v, n, h => by
    unfold noList at n
    unfold Rep at h ⊢
    obtain ⟨a, vs, ev, sq, r⟩ := h
    refine ⟨a, vs, ev, ?_, reps_kp k ps vs n r⟩
    rcases sq with q | q
    · exact .inl ((k a vs).1 q)
    · exact .inr q
theorem reps_kp {K : PySem.W.Frag} {F F' : Addr → Prop} {H H' : Hp} (k : Kp H H') : ∀ (ps : List PyData) (vs : List V), noLists ps = true → Reps K F H ps vs → Reps K F' H' ps vs
  | [], [], _, _ => by unfold Reps; trivial
  | p :: ps, v :: vs, n, h => by
    unfold noLists at n
    rw [Bool.and_eq_true] at n
    unfold Reps at h ⊢
    exact ⟨rep_kp k p v n.1 h.1, reps_kp k ps vs n.2 h.2⟩
  | [], _ :: _, _, h => by unfold Reps at h; exact h.elim
  | _ :: _, [], _, h => by unfold Reps at h; exact h.elim
end
section
variable {K : PySem.W.Frag} {C : Addr} {H0 H H' : Hp} {x dx c t h : Addr} {vp : V} {W : Wv}
theorem WAt.grow (w : WAt K C H0 H x W dx c t h vp) (s : Same H H') : WAt K C H0 H' x W dx c t h vp :=
  ⟨w.same.trans s, w.x0, w.nl, w.c0, w.t0, w.h0, w.ct, w.ch, w.th, s _ _ w.ob, s _ _ w.lc, s _ _ w.lt, s _ _ w.lh, rep_kp (Kp.of_same s) _ _ w.nl w.ph⟩
theorem WAt.xc (w : WAt K C H0 H x W dx c t h vp) : x ≠ c := ne_of w.ob w.lc (by intro z; cases z)
theorem WAt.xt (w : WAt K C H0 H x W dx c t h vp) : x ≠ t := ne_of w.ob w.lt (by intro z; cases z)
theorem same_upd {a : Addr} {o : HO} (s : Same H0 H) (h0 : H0 a = none) : Same H0 (upd H a o) := fun b q e => by
  rw [upd_ne (ne_of_none e h0)]
  exact s b q e
theorem WAt.put (w : WAt K C H0 H x W dx c t h vp) (l : List Int) : WAt K C H0 (upd H c (.lst (l.map V.int))) x { W with car := l } dx c t h vp :=
  ⟨same_upd w.same w.c0, w.x0, w.nl, w.c0, w.t0, w.h0, w.ct, w.ch, w.th, by rw [upd_ne w.xc]; exact w.ob, upd_same, by rw [upd_ne w.ct.symm]; exact w.lt, by rw [upd_ne w.ch.symm]; exact w.lh, rep_kp (Kp.lst w.lc) _ _ w.nl w.ph⟩
theorem WAt.tie (w : WAt K C H0 H x W dx c t h vp) (l : List Int) : WAt K C H0 (upd H t (.lst (l.map V.int))) x { W with tis := l } dx c t h vp :=
  ⟨same_upd w.same w.t0, w.x0, w.nl, w.c0, w.t0, w.h0, w.ct, w.ch, w.th, by rw [upd_ne w.xt]; exact w.ob, by rw [upd_ne w.ct]; exact w.lc, upd_same, by rw [upd_ne w.th.symm]; exact w.lh, rep_kp (Kp.lst w.lt) _ _ w.nl w.ph⟩
end
section
variable (W : Wv) (c t h : Addr) (vp v : V) (p : PyData) (z : Int)
theorem wF_take : (wF W c t h vp).lookup ("take" : Str) = none := by kernel_rfl
theorem wF_ended : (wF W c t h vp).lookup ("ended" : Str) = none := by kernel_rfl
end
theorem passP {X : Cx} : Passes (CX1 X.prog X.w) X E0 := fun pins σ H s e s' I z => by
  obtain ⟨_, _, _, _, _, _, _, _, _, _, _, _, q, _⟩ := z
  exact q.elim
theorem wv_bind {α β : Type} {r : R α} {k : α → R β} {b : β} (h : r.bind k = .ok b) : ∃ a, r = .ok a ∧ k a = .ok b := by
  cases r with
  | ok a => exact ⟨a, rfl, h⟩
  | ex c as => cases h
  | bad => cases h
theorem wv_opt {α β : Type} {r : Option α} {k : α → R β} {b : β} (h : (optR r).bind k = .ok b) : ∃ a, r = some a ∧ k a = .ok b := by
  cases r with
  | some a => exact ⟨a, rfl, h⟩
  | none => cases h
theorem wv_guard {α : Type} {c : Bool} {r : R α} {b : α} (h : guardR c r = .ok b) : c = true ∧ r = .ok b := by
  cases c with
  | true => exact ⟨rfl, h⟩
  | false => cases h
theorem reps_atI {K : PySem.W.Frag} {F : Addr → Prop} {H : Hp} {ps : List PyData} {vs : List V} {k : Int} {p : PyData} (r : Reps K F H ps vs) (h : atI ps k = some p) : ∃ v, atI vs k = some v ∧ Rep K F H p v := by
  unfold atI at h ⊢
  rw [r.length]
  cases e : ixN ps.length k with
  | none => rw [e] at h; cases h
  | some j =>
    rw [e] at h
    exact r.get h
theorem noLists_mem {ps : List PyData} {p : PyData} (n : noLists ps = true) (h : p ∈ ps) : noList p = true := by
  induction ps with
  | nil => cases h
  | cons q ps ih =>
    unfold noLists at n
    rw [Bool.and_eq_true] at n
    rcases List.mem_cons.mp h with rfl | h
    · exact n.1
    · exact ih n.2 h
/-- a row as it stands in the heap -/
structure RowAt (K : PySem.W.Frag) (H : Hp) (a : Addr) (ps : List PyData) (vs : List V) : Prop where
  sq : SqT K H a vs
  nl : noLists ps = true
  rs : Reps K (fun _ => False) H ps vs
theorem RowAt.str {K : PySem.W.Frag} {H : Hp} {a : Addr} {ps : List PyData} {vs : List V} {row : PyData} {α : Type} {k : Str → R α} {b : α} (ra : RowAt K H a ps vs) (h : (kindR row ps).bind k = .ok b) : ∃ s, atI vs 0 = some (.str s) ∧ k s = .ok b := by
  obtain ⟨s, e, h⟩ := wv_bind h
  unfold kindR at e
  obtain ⟨q, e1, e2⟩ := wv_opt e
  obtain ⟨v, e3, r⟩ := reps_atI ra.rs e1
  cases q with
  | str z =>
    cases e2
    unfold Rep at r
    rw [r] at e3
    exact ⟨_, e3, h⟩
  | _ => cases e2
theorem RowAt.int {K : PySem.W.Frag} {H : Hp} {a : Addr} {ps : List PyData} {vs : List V} {m : Int} {α : Type} {k : Int → R α} {b : α} (ra : RowAt K H a ps vs) (h : (nthI ps m).bind k = .ok b) : ∃ s, atI vs m = some (.int s) ∧ k s = .ok b := by
  obtain ⟨s, e, h⟩ := wv_bind h
  unfold nthI at e
  obtain ⟨q, e1, e2⟩ := wv_opt e
  obtain ⟨v, e3, r⟩ := reps_atI ra.rs e1
  cases q with
  | int z =>
    cases e2
    unfold Rep at r
    rw [r] at e3
    exact ⟨_, e3, h⟩
  | _ => cases e2
theorem RowAt.grow {K : PySem.W.Frag} {H H' : Hp} {a : Addr} {ps : List PyData} {vs : List V} (ra : RowAt K H a ps vs) (k : Kp H H') : RowAt K H' a ps vs := by
  refine ⟨?_, ra.nl, reps_kp k _ _ ra.nl ra.rs⟩
  rcases ra.sq with (q | ⟨o, q⟩) | q
  · exact .inl (.inl ((k a vs).1 q))
  · exact .inl (.inr ⟨o, (k a vs).2 o q⟩)
  · exact .inr q
theorem map_set {xs : List Int} {j : Nat} {z : Int} : (xs.map V.int).set j (.int z) = (xs.set j z).map V.int := by rw [List.map_set]
theorem Kp.new {H : Hp} {a : Addr} {o : HO} (h : H a = none) : Kp H (upd H a o) := Kp.of_same (upd_same_grow h)
theorem _root_.L2.Same.seqT {K : PySem.W.Frag} {H H' : Hp} {a : Addr} {xs : List V} (s : Same H H') (h : SqT K H a xs) : SqT K H' a xs := by
  rcases h with (q | ⟨o, q⟩) | q
  · exact .inl (.inl (s _ _ q))
  · exact .inl (.inr ⟨o, s _ _ q⟩)
  · exact .inr q
theorem rep_free {K : PySem.W.Frag} {F F' : Addr → Prop} {H : Hp} {p : PyData} {v : V} (n : noList p = true) (r : Rep K F H p v) : Rep K F' H p v := rep_kp (fun b xs => ⟨id, fun o => id⟩) p v n r
theorem reps_free {K : PySem.W.Frag} {F F' : Addr → Prop} {H : Hp} {p : List PyData} {v : List V} (n : noLists p = true) (r : Reps K F H p v) : Reps K F' H p v := reps_kp (fun b xs => ⟨id, fun o => id⟩) p v n r
theorem calm_rp {α : Type} {β : Type} {W : XW} {r : R α} {k : α → R β} {P : β → Prop} (h : RP W (r.calm.bind k) P) : ∃ a, r = .ok a ∧ RP W (k a) P := by
  cases r with
  | ok a => exact ⟨a, rfl, h⟩
  | ex c as => exact False.elim h
  | bad => exact False.elim h
theorem evSs_one {Φ : Nat → List PyData → R PyData} {w : Nat} {s : S} {ρ : PEnv} : evSs Φ w [s] ρ = evS Φ w s ρ := by
  unfold evSs
  cases evS Φ w s ρ with
  | ok fl => cases fl <;> first | rfl | (show evSs Φ w [] _ = _; unfold evSs; rfl)
  | ex c as => rfl
  | bad => rfl
theorem meth_form {x m : Str} {p6 apos pos : Pos} {es : List Expr} {env : Env} (hline : (apos.endLine == pos.line) = true) (hf : methodCallForm (es.length + ([] : List Keyword).length) (backTo pos (starEach es env)) (backToKw pos (keywordEach [] env)) = true) :
    eval (.Call (.Attribute (.Name x p6) m apos) es [] pos) env = (do
      let ov ← eval (.Name x p6) env
      standAt apos.atName
      let (f, first) ← holding [ov] (getMethod ov m (do return (← importBound (.Name x p6) env).getD true))
      callWith pos f first (backTo pos (starEach es env)) (backToKw pos (keywordEach [] env))) := by
  show (do
    let ov ← attributeBase (.Name x p6) m env (eval (.Name x p6) env)
    standAt apos.atName
    methodCall (.Name x p6) m apos pos env ov (es.length + ([] : List Keyword).length) (backTo pos (starEach es env)) (backToKw pos (keywordEach [] env))) = _
  have e1 : attributeBase (.Name x p6) m env (eval (.Name x p6) env) = eval (.Name x p6) env := by rfl
  rw [e1]
  unfold methodCall calleeOf methodCallPos
  rw [hf, hline]
  simp only [Bool.not_true, Bool.false_or, if_true, pure_bind]
theorem rowsAt_ok {s : Option Sl} {k : Int} {rows : List PyData} (h : rowsAt s k = .ok rows) : ∃ cs, s = some (some (false, .tuple cs)) ∧ atI cs k = some (.tuple rows) := by
  unfold rowsAt at h
  split at h
  · rename_i cs
    obtain ⟨z, e1, h⟩ := wv_opt h
    cases z with
    | tuple ps => cases h; exact ⟨cs, rfl, e1⟩
    | _ => cases h
  · cases h
section
variable {T : Tb} {x r y : Str} {p1 p2 p3 p4 p5 p6 p7 p8 p9 p10 p11 p12 p13 p14 p15 p16 p17 p18 : Pos} {a b : Expr} {ia ib : E} {fr : Bool} {k : Int} {kn : Nat}
theorem sss_weave {i j c : Nat} {q : Nat × Nat × Nat} (hcm : T.cm = true) (hN : T.N[i]? = some x) (hl : locB T x = true) (hv : visB T.scope x = true) (hn : nameB x = true) (hNr : T.N[j]? = some r) (hlr : locB T r = true) (hvr : visB T.scope r = true) (hnr : nameB r = true)
    (hNy : T.N[c]? = some y) (hvy : visB T.scope y = true) (hny : nameB y = true) (hij : i ≠ j) (hic : i ≠ c) (hl1 : (p7.endLine == p9.line) = true) (hl2 : (p13.endLine == p14.line) = true)
    (hw : T.wv = some q) (hg : gloB T.scope "Weaving" = true) (ha : SE T a ia) (hb : SE T b ib) :
    SSs T fr [.Assign [.Name x p1] (.Call (.Name "Weaving" p2) [a, b] [] p3) p4, .For (.Name r p5) (.Subscript (.Name y p16) (.Constant (.int k) kn p17) p18) [.Expr (.Call (.Attribute (.Name x p6) "take" p7) [.Name r p8] [] p9) p10] [] p11, .Return (some (.Call (.Attribute (.Name x p12) "ended" p13) [] [] p14)) p15]
      [.weave i j c k ia ib q.1 q.2.1 q.2.2] := fun Y W Φ w X ok => by
  obtain ⟨C, fI, fT, fE, fdI, fdT, fdE, Tc, MK, FI, bI, mT, FT, bT, mE, FE, bE⟩ := ok.wv q hw
  obtain ⟨h1, h2⟩ := locB_ok ok hl
  obtain ⟨h3, h4⟩ := locB_ok ok hlr
  obtain ⟨n1, n2, _⟩ := nameB_ok hn
  obtain ⟨n3, n4, _⟩ := nameB_ok hnr
  obtain ⟨n5, n6, _⟩ := nameB_ok hny
  have nd : X.N.Nodup := by rw [ok.N]; exact ok.nd
  have eN : X.N[i]? = some x := by rw [ok.N]; exact hN
  have eNr : X.N[j]? = some r := by rw [ok.N]; exact hNr
  have eNy : X.N[c]? = some y := by rw [ok.N]; exact hNy
  have vx : Vis X.env.scope x := by rw [ok.sc]; exact visB_ok hv
  have vr : Vis X.env.scope r := by rw [ok.sc]; exact visB_ok hvr
  have vy : Vis X.env.scope y := by rw [ok.sc]; exact visB_ok hvy
  refine PSs.imp (pss_cons (ps_set nd eN h1 (pe_make MK FI (ok.roomW hcm) (gloB_ok ok hg) Tc.mgC bI .nil passP (pa_cons (ha.2 Y W Φ X ok) (pa_cons (hb.2 Y W Φ X ok) pa_nil (plainE_star hb.1 _ _)) (plainE_star ha.1 _ _)) (by decide +kernel) (plainE_star ha.1 _ _) ?_) (by rfl) h2)
    (pss_cons (ps_for ok.own (ok.calm hcm) (pi_tup (pe_ix ix_tup (pe_var eNy vy n5 n6) pe_int (fun _ _ => rfl))) (pg_name nd eNr h3 h4) (pss_one (ps_expr (pe_meth (pe_var eN vx n1 n2) Tc.cl mT FT (ok.roomW hcm) bT .nil passP (pa_cons (pe_var eNr vr n3 n4) pa_nil) (by rfl) (by rfl) (meth_form hl1 (by rfl))) (by rfl))))
      (pss_one (ps_ret (pe_meth0 (pe_var eN vx n1 n2) Tc.cl mE FE ((ok.roomW hcm).mono (Nat.le_succ _)) bE .nil passP (meth_form hl2 (by rfl))))))) fun D σ H ⟨ρ, F, H0, er, h⟩ => ?_
  · rw [plainE_star hb.1]; rfl
  rw [evSs_one] at h
  unfold evS at h
  obtain ⟨gl, h⟩ := RP.guard h
  rw [Bool.and_eq_true] at gl
  have il : i < σ.length := by rw [er.len]; exact of_decide_eq_true gl.1
  have jl : j < σ.length := by rw [er.len]; exact of_decide_eq_true gl.2
  refine ⟨ρ, F, H0, er, (RP.bind h).mono fun z hz v1 H1 s1 r1 i1 => ⟨ρ, F, H0, er.grow s1, ?_⟩⟩
  obtain ⟨wz, rfl, hz⟩ := intV_okD (RP.bind hz)
  refine RP.mono (RP.bind (r := evE Φ ib ρ) hz) fun y hy v2 H2 s2 r2 i2 => ?_
  obtain ⟨l, rfl, hy⟩ := intV_okD (RP.bind hy)
  obtain ⟨W0, e0, hy⟩ := calm_rp (r := w0 wz l) hy
  obtain ⟨rows, er0, hy⟩ := calm_rp (r := rowsAt ρ[c]? k) hy
  obtain ⟨p, ep, hz⟩ := calm_rp (r := wendV (Φ q.1) (Φ q.2.1) (Φ q.2.2) rows W0) (k := fun p => R.ok (Fl.rt p)) (P := FlP (Y.kb X.K) F H0 fr D) (W := W) hy
  obtain ⟨nl, ep⟩ := wv_guard ep
  obtain ⟨W1, eW, eE⟩ := wv_bind ep
  have q1 := two_int i1
  have q2 := two_int i2
  subst q1 q2
  have er2 := (er.grow s1).grow s2
  obtain ⟨cs, ec, ek⟩ := rowsAt_ok er0
  obtain ⟨vc, evc, rc⟩ := er2.val c _ ec
  unfold Rep at rc
  obtain ⟨ac, vcs, rfl, sqc, rcs⟩ := rc
  obtain ⟨vr2, evr, rr⟩ := reps_atI rcs ek
  unfold Rep at rr
  obtain ⟨ar, vs, rfl, sq, rs⟩ := rr
  have rs := reps_free (F' := fun _ => False) nl rs
  have sq : SqT X.K H2 ar vs := sq.sq
  have sqc : SqT X.K H2 ac vcs := sqc.sq
  have ra : RowAt X.K H2 ar rows vs := ⟨sq, nl, rs⟩
  have len := rs.length
  intro ad dx hx hdx ne
  have sxx : Same H2 (upd (upd H2 dx (.own ad)) ad (.ins C dx [])) := fun b o e => by
    rw [upd_ne (ne_of_none e hx), upd_ne (ne_of_none e hdx)]
    exact e
  refine ⟨H2, ad, dx, wz, l, W0, rfl, sxx, hx, upd_same, e0, fun H3 w3 => ⟨rfl, ?_⟩⟩
  obtain ⟨_, _, _, _, _, wb⟩ := id w3
  refine ⟨_, by rw [List.getElem?_set_ne hic]; exact evc, ac, vcs, k, _, rfl, rfl, wb.same.seqT sqc, evr, ar, rfl, ⟨vs, wb.same.seqT sq⟩, for_tup (K := X.K) (a := ar) (xs := vs) (fun n σ' H' => σ'.length = σ.length ∧ σ'[i]? = some (some (.ref ad)) ∧ ∃ W', takesW (Φ q.1) (Φ q.2.1) (rows.drop n) W' = .ok W1 ∧ WOk X.K C H2 H' ad W') ?_ (fun n σ' H' _ ⟨_, _, W', _, _, _, _, _, _, wa⟩ => wa.same.seqT sq) ?_ ?_⟩
  · exact ⟨List.length_set, List.getElem?_set_self il, W0, by rw [List.drop_zero]; exact eW, w3⟩
  · rintro n v σ' H' hk ⟨k2, k3, W', k4, k5⟩
    have hk2 : n < rows.length := by rw [← len]; exact (List.getElem?_eq_some_iff.mp hk).1
    obtain ⟨dx2, c2, t2, g2, vp2, wa2⟩ := id k5
    have rk := ra.grow (Kp.of_same wa2.same)
    have edr : rows.drop n = rows[n] :: rows.drop (n + 1) := List.drop_eq_getElem_cons hk2
    rw [edr] at k4
    obtain ⟨W2, e2, k4⟩ := wv_bind (show (takeW (Φ q.1) (Φ q.2.1) rows[n] W').bind _ = _ from k4)
    obtain ⟨v2, ev2, rv⟩ := rk.rs.get (List.getElem?_eq_getElem hk2)
    rw [hk] at ev2
    cases ev2
    have nrow : noList rows[n] = true := noLists_mem nl (List.getElem_mem hk2)
    have ei : (σ'.set j (some v))[i]? = some (some (.ref ad)) := by rw [List.getElem?_set_ne hij.symm]; exact k3
    have ej : (σ'.set j (some v))[j]? = some (some v) := List.getElem?_set_self (by rw [k2]; exact jl)
    exact ⟨_, ei, ad, dx2, _, rfl, wa2.ob, wF_take _ _ _ _ _, _, ej, H2, ad, rows[n], v, W', W2, rfl, nrow, rv, k5, e2, fun H5 w5 => ⟨by rw [List.length_set]; exact k2, ei, W2, k4, w5⟩⟩
  · rintro σ' H' ⟨k2, k3, W', k4, k5⟩
    rw [len, List.drop_length] at k4
    cases k4
    obtain ⟨dx2, c2, t2, g2, vp2, wa2⟩ := id k5
    refine ⟨_, k3, ad, dx2, _, rfl, wa2.ob, wF_ended _ _ _ _ _, H2, ad, W1, p, rfl, k5, eE, fun u H5 sm n5 r5 => ?_⟩
    have hz : FlP (Y.kb X.K) F H0 fr D (.rt p) := hz
    refine hz u H5 (er2.same.trans sm) ⟨rep_free n5 r5, fun _ ps e => ?_⟩
    subst e
    unfold noList at n5
    cases n5
end
end L2.Pu
namespace L2.Pu
open PySem PySem.Spec PyProof.Rows
/-! ### while an exception is handled: a comprehension over a range -/
section
variable {X : Cx} {pins : List (Addr × Obj)} {σ : L2.St} {H : Hp} {s : Shared} {a0 it : Addr} {cls : Value} {lo : Int} {n i : Nat} {E : Value → Shared → Prop} {tg : Expr}
theorem hot_at (I : Inv X pins σ H s) (hh : X.A.handled = some (.ref a0)) (hx : H a0 = some (ExH cls a0)) : HotX.HotAt X.A a0 s.heap := by
  obtain ⟨⟨oe, vs, ho, hz, hd⟩, _, _⟩ := I.hok a0 _ hx
  exact ⟨hh, oe, vs, ho, hd, hz.2.2 vs hd⟩
/-- the range's iterator ahead of turn i -/
def RgAt (it : Addr) (lo : Int) (n i : Nat) (h : Heap) : Prop := IsRangeIter h it (lo + (i : Int)) ((n : Int) - (i : Int)) 1
theorem rg_item (I : Inv X pins σ H s) (hf : FpOk X pins H it) (st : RgAt it lo n i s.heap) (hlt : i < n) :
    wpAny (model X.prog X.w) X.A (pyNext (.ref it)) (fun r s1 => ∃ u, r = some u ∧ wpAny (model X.prog X.w) X.A (letOwnedTupleGo tg (.ref it) u) (fun _ s2 => Inv X pins σ H s2 ∧ RelV (.int (lo + i)) u ∧ RgAt it lo n (i + 1) s2.heap) E s1) E s := by
  obtain ⟨f0, f1, f2, f3, f4, f5⟩ := hf
  refine wpAny_pyNext_range_item st (by omega) fun h' st' sb => ?_
  have q1 : lo + (i : Int) + 1 = lo + ((i + 1 : Nat) : Int) := by omega
  have q2 : (n : Int) - (i : Int) - 1 = (n : Int) - ((i + 1 : Nat) : Int) := by omega
  rw [q1, q2] at st'
  have I1 : Inv X pins σ H { s with heap := h', toks := s.toks + 1 } := I.turned (fun b o hb e => (sb.2 b hb).trans e) f0 f1 f3 f4 f5
  exact ⟨_, rfl, go_of (s := { s with heap := h', toks := s.toks + 1 }) (n := "range_iterator") st' rfl rfl (by decide) ⟨I1, ⟨s.toks, rfl⟩, st'⟩⟩
theorem rg_done (I : Inv X pins σ H s) (hf : FpOk X pins H it) (st : RgAt it lo n i s.heap) (hle : n ≤ i) (hh : X.A.handled = some (.ref a0)) (hx : H a0 = some (ExH cls a0)) :
    wpAny (model X.prog X.w) X.A (pyNext (.ref it)) (fun r s1 => r = none ∧ Inv X pins σ H s1) E s := by
  obtain ⟨f0, f1, f2, f3, f4, f5⟩ := hf
  exact HotX.pyNext_range_end_hot (hot_at I hh hx) st (by omega) fun h' eb => ⟨rfl, I.turned (t' := s.toks) (fun b o _ e => eb b o e) f0 f1 f3 f4 f5⟩
end
section
variable {X : Cx} {a0 : Addr} {cls : Value} {B : Hp}
theorem lcT {a elt tg : Expr} {ifs : List Expr} {scope : Scope} {own : List (Str × Nat)} {p p2 pos : Pos} {ta : TA} {g : TG} {tt : TT} {te : TE} (hh : X.A.handled = some (.ref a0)) (hB : B a0 = some (ExH cls a0)) (hN : X.N.Nodup)
    (hgl : Gl X "range") (hm : X.mg "range" = none) (ha : PA X [a] ta) (hsa : starEach [a] X.env = [(false, eval a X.env)]) (ok : BlkOk X.N X.env.scope scope own)
    (hg : ∀ (s : Shared) (H : Hp) (C : Addr) (cl : List (Str × Addr)) (fp : List Addr), PG (X.blk s H scope (compEnvC scope cl C X.env) fp) tg g) (ht : ∀ (s : Shared) (H : Hp) (C : Addr) (cl : List (Str × Addr)) (fp : List Addr), PTs (X.blk s H scope (compEnvC scope cl C X.env) fp) ifs tt)
    (he : ∀ (s : Shared) (H : Hp) (C : Addr) (cl : List (Str × Addr)) (fp : List Addr), PE (X.blk s H scope (compEnvC scope cl C X.env) fp) elt te) :
    PE X (.ListComp elt [⟨tg, .Call (.Name "range" p) [a] [] p2, ifs, 0⟩] scope pos) (tLcB B (iRng1 ta) g tt te (own.map (·.2))) := by
  refine ⟨fun pins s σ H Q I h => ?_⟩
  rw [eval_ListComp]
  have hfree : ∀ y ∈ scope.names, y.2 = .free → ∃ c, X.env.cells.lookup y.1 = some c := fun y hy e => (ok.free y hy e).elim (fun k => I.ok.has _ (.inl k)) fun k => I.ok.has _ (.inr k)
  refine wpAny_comprehension_free (use := none) rfl (by intro _; rfl) (closure_ok hfree) ok.kind (fun y hy e => by rw [ok.uniq y hy, e]) ?_
  refine Call_ (ld_blt I hgl hm boot_range (PyProof.Rows.callWith_type1 (thn (ha.run p2 pins s σ H _ I h) fun us s1 ⟨vs, H1, I1, r1, q1⟩ => ?_) hsa rfl))
  obtain ⟨j, rfl, b1, b2, q⟩ := q1
  cases r1 with
  | cons r rr =>
  cases rr
  obtain ⟨t, rfl⟩ := r
  refine call_range_1 (wpAny_pyIter_range (IsRange.new ..) (small_one (by omega) (by omega) b1 b2) ?_)
  generalize hsr : ({ s1 with heap := s1.heap.push { cls := .type "range", data := .fields #[.int 0 s1.toks, .int j t, .int 1 (s1.toks + 1)] }, toks := s1.toks + 1 + 1 } : Shared) = sr
  have Ir : Inv X pins σ H1 sr := by
    rw [← hsr]
    exact I1.kept fun b o e => Heap.get?_push_of_some _ e
  generalize hit : sr.heap.objs.size = it
  generalize hs2 : ({ sr with heap := sr.heap.push { cls := .type "range_iterator", data := .fields #[rawInt 0, rawInt (Builtin.Range.rangeSize 0 j 1), rawInt 1] } } : Shared) = s2
  have I2 : Inv X pins σ H1 s2 := by
    rw [← hs2]
    exact Ir.kept (t' := sr.toks) fun b o e => Heap.get?_push_of_some _ e
  have st2 : RgAt it 0 j.toNat 0 s2.heap := by
    have e1 : (0 : Int) + ((0 : Nat) : Int) = 0 := by simp
    have e2 : ((j.toNat : Int) - ((0 : Nat) : Int)) = Builtin.Range.rangeSize 0 j 1 := by rw [rangeSize_one]; split <;> omega
    unfold RgAt
    rw [e1, e2, ← hit, ← hs2]
    exact Heap.get?_push_size _ rfl
  have f2 : FpOk X pins H1 it := by
    rw [← hit]
    exact Ir.fpOk (Nat.le_refl _) (Ir.hok.fresh (Nat.le_refl _))
  have lt2 : it < s2.heap.objs.size := Heap.lt_size st2
  refine wpAny_newObj_type (newEnv_comp ?_) (by show 0 ≤ sizeLine; decide)
  generalize hD : s2.heap.objs.size = D
  have hDn : H1 D = none := I2.hok.fresh (Nat.le_of_eq hD)
  obtain ⟨W, ⟨m0, w0⟩, turn⟩ := q D hDn
  generalize hs3 : ({ s2 with heap := s2.heap.push { cls := .type "list", data := .seq ([] : List Value).toArray } } : Shared) = s3
  have h3 : s3.heap = s2.heap.push { cls := .type "list", data := .seq ([] : List Value).toArray } := by rw [← hs3]
  have I3 : Inv X pins σ (upd H1 D (.lst [])) s3 := by
    rw [← hs3]
    refine I2.laid (t' := s2.toks) (fun b o e => Heap.get?_push_of_some _ e) (Nat.le_of_eq hD) ⟨Nat.zero_le _, [], 0, .nil, ?_⟩
    rw [← hD]
    exact Heap.get?_push_size _ rfl
  have f3 : FpOk X pins (upd H1 D (.lst [])) it := ⟨by rw [upd_ne (by rw [← hD]; exact Nat.ne_of_lt lt2)]; exact f2.1, f2.2⟩
  have lt3 : it < s3.heap.objs.size := by rw [h3, Heap.size_push]; exact Nat.lt_succ_of_lt lt2
  have st3 : RgAt it 0 j.toNat 0 s3.heap := by rw [h3]; exact Heap.get?_push_of_some _ st2
  have I4 := block_start (fp := [it]) I3 ok hN fun b hb => by
    cases List.mem_singleton.mp hb
    exact ⟨f3, lt3⟩
  have pg := hg s3 (upd H1 D (.lst [])) s3.heap.objs.size (cellsFrom (s3.heap.objs.size + 1) scope.names (cloFrom X.env.cells scope.names [])) [it]
  have pt := ht s3 (upd H1 D (.lst [])) s3.heap.objs.size (cellsFrom (s3.heap.objs.size + 1) scope.names (cloFrom X.env.cells scope.names [])) [it]
  have pe := he s3 (upd H1 D (.lst [])) s3.heap.objs.size (cellsFrom (s3.heap.objs.size + 1) scope.names (cloFrom X.env.cells scope.names [])) [it]
  generalize hQf : (fun (v : Value) (s' : Shared) => EP X pins σ Q v s') = Qf
  show codeAny _ _ (.compStart (.ListComp elt [⟨tg, .Call (.Name "range" p) [a] [] p2, ifs, 0⟩] scope pos) 0 (.ref it) (.ref D) (compEnvC scope (cellsFrom (s3.heap.objs.size + 1) scope.names (cloFrom X.env.cells scope.names [])) s3.heap.objs.size X.env)) (compPost (model X.prog X.w) X.A X.xe none (EP X pins σ Q) (.ref D) s3.heap.objs.size) { s3 with heap := pushCells (s3.heap.push { cls := .type "dict", data := .dict #[] }) scope.names }
  generalize hce : compEnvC scope (cellsFrom (s3.heap.objs.size + 1) scope.names (cloFrom X.env.cells scope.names [])) s3.heap.objs.size X.env = ce at I4 pg pt pe ⊢
  have cL : ce.locals = s3.heap.objs.size := by subst hce; rfl
  generalize hH3 : upd H1 D (.lst []) = H3 at I3 I4 pg pt pe w0 f3
  generalize hs4 : ({ s3 with heap := pushCells (s3.heap.push { cls := .type "dict", data := .dict #[] }) scope.names } : Shared) = s4 at I4 ⊢
  have st4 : RgAt it 0 j.toNat 0 s4.heap := by rw [← hs4]; exact pushCells_keeps _ _ _ _ (Heap.get?_push_of_some _ st3)
  -- the iterator is out of reach
  have stat : ∀ {σ' : L2.St} {H' : Hp} {s' : Shared}, Inv (X.blk s3 H3 scope ce [it]) [] σ' H' s' → H' it = none → FpOk (X.blk s3 H3 scope ce [it]) [] H' it := fun {σ' H' s'} I' hn =>
    have mi : it ∈ [it] := List.mem_singleton.mpr rfl
    ⟨hn, (I'.ok.exf it mi).1, I'.ok.exfs it mi, .inl mi, fun x c e => (I'.ok.exf it mi).2 x c e, fun p hp => absurd (show p ∈ ([] : List (Addr × Obj)) ++ [] from hp) (by simp)⟩
  have loop : codeAny (model X.prog X.w) X.A (.compLoop (.ListComp elt [⟨tg, .Call (.Name "range" p) [a] [] p2, ifs, 0⟩] scope pos) 0 (.ref it) (.ref D) ce) (compPost (model X.prog X.w) X.A X.xe none (EP X pins σ Q) (.ref D) s3.heap.objs.size) s4 := by
    refine compLoop_any (fun m s' => ∃ i H', Inv (X.blk s3 H3 scope ce [it]) [] (wipe σ (own.map (·.2))) H' s' ∧ RgAt it 0 j.toNat i s'.heap ∧ H' it = none ∧ W i m H') ?_ m0 ⟨0, H3, I4, st4, f3.1, w0⟩
    rintro m s5 ⟨i, H5, I5, st5, n5, w5⟩
    obtain ⟨keepB, turn⟩ := turn i m H5 w5
    have hx5 : H5 a0 = some (ExH cls a0) := keepB _ _ hB
    rcases turn with ⟨stop, qq⟩ | ⟨go, Nx, hNx, step⟩
    · have td := rg_done (X := X.blk s3 H3 scope ce [it]) (E := fun _ _ => False) I5 (stat I5 n5) st5 stop hh hx5
      refine thnF td fun r s6 ⟨hr, I6⟩ => ?_
      subst hr
      have I7 : Inv X pins σ H5 s6 := I3.call' (ch := [it]) I6.os I6.base I6.hok I6.bare fun b hb => by
        cases List.mem_singleton.mp hb
        exact ⟨f3.2.2.2.1, f3.2.1, f3.2.2.2.2.1, f3.2.2.2.2.2⟩
      have nC : H5 s3.heap.objs.size = none := by
        have z : H5 ce.locals = none := I6.free
        rw [cL] at z
        exact z
      obtain ⟨mm, hn, _⟩ := I6.loc
      have hn : s6.heap.Ns ce.locals mm := hn
      rw [cL] at hn
      refine ⟨mm, hn, fun h'' sb => ?_⟩
      obtain ⟨g0, g1, g2, g3, g4, g5⟩ := I3.fpOk (Nat.le_refl _) nC
      exact ⟨.ref D, H5, I7.turned (t' := s6.toks) (fun b o hb e => (sb.2 b hb).trans e) g0 g1 g3 g4 g5, rfl, qq⟩
    · have ti := rg_item (X := X.blk s3 H3 scope ce [it]) (tg := tg) (E := fun _ _ => False) I5 (stat I5 n5) st5 go
      refine thnF ti fun r s6 ⟨u, hr, h6⟩ => ?_
      subst hr
      refine thnF h6 fun _ s7 ⟨I7, r7, st7⟩ => ?_
      have I7' := I7.pinned (fp := [it]) (fun b hb => by cases List.mem_singleton.mp hb; exact stat I7 n5) (fun b hb => by
        cases List.mem_singleton.mp hb
        exact ⟨_, st7, fun v z => by
          have z' : Data.fields _ = Data.cell v := z
          cases z'⟩)
      refine thnF (pg.run _ s7 _ H5 _ u _ I7' r7 (step _ H5 ⟨rfl, rfl⟩)) fun _ s8 ⟨σ8, H8, I8, hw8, q8⟩ => ?_
      refine thnF (pt.run _ s8 σ8 H8 _ I8 q8) fun b s9 ⟨H9, I9, q9⟩ => ?_
      have fin : ∀ {s' : Shared} {H' : Hp}, Inv (X.blk s3 H3 scope ce [it]) ([] ++ pinsAt [it] s7.heap) σ8 H' s' → Nx H' → ∃ m', m' < m ∧ ∃ i H', Inv (X.blk s3 H3 scope ce [it]) [] (wipe σ (own.map (·.2))) H' s' ∧ RgAt it 0 j.toNat i s'.heap ∧ H' it = none ∧ W i m' H' := fun {s' H'} I' nx => by
        obtain ⟨m', hm, w'⟩ := hNx H' nx
        have pin := I'.pin (it, _) (List.mem_append_right _ (List.mem_append_right _ (mem_pinsAt (List.mem_singleton.mpr rfl) st7)))
        have hl : (wipe σ (own.map (·.2))).length = σ8.length := by rw [← hw8, wipe_length]
        refine ⟨m', hm, i + 1, H', (I'.unpinned (pins := [])).weak hl (fun j v e => ?_), pin.1, pin.2.1, w'⟩
        rw [← hw8] at e
        exact (wipe_some e).1
      cases b with
      | false =>
        simp only [Bool.false_eq_true, if_false] at q9 ⊢
        exact fin I9 q9
      | true =>
        simp only [if_true] at q9 ⊢
        refine thnF (pe.run _ s9 σ8 H9 _ I9 q9) fun z s10 ⟨yv, H10, I10, r10, acc, hD10, hz10, nx⟩ => ?_
        exact app_ok (X := X.blk s3 H3 scope ce [it]) I10 hD10 hz10 r10 fun s11 I11 => fin I11 nx
  exact codeAny_compStart_list loop (wpAny_pyIter_rangeiter st4 loop)
end
section
variable {T : Tb} {pos p p2 : Pos} {elt tg a : Expr} {ifs : List Expr} {scope : Scope} {own : List (Str × Nat)} {itg : Tg} {ic : Option E} {ie ia : E}
theorem se_compT (hht : T.ht = true) (hgl : gloB T.scope "range" = true) (hbl : ("range" : Str) ∈ T.blts) (ha : SA T [a] [ia]) (hb : blkC T.N T.scope scope own = true) (ht : ∀ j, j ∈ tgSlots itg → j ∈ own.map (·.2)) (hg : SG (T.inner scope) tg itg) (hc : SC (T.inner scope) ifs ic) (he : SE (T.inner scope) elt ie) :
    SE T (.ListComp elt [⟨tg, .Call (.Name "range" p) [a] [] p2, ifs, 0⟩] scope pos) (.comp (own.map (·.2)) itg .rng1 [ia] ic ie) := by
  refine ⟨rfl, fun Y W Φ X ok => ?_⟩
  have bo : BlkOk X.N X.env.scope scope own := by rw [ok.N, ok.sc]; exact blkOk_by hb
  have pl := ha.1
  rw [List.all_cons, Bool.and_eq_true] at pl
  obtain ⟨a0, cls, hh, hB⟩ := ok.hot hht
  refine PE.imp (lcT (g := gP (Y.kb X.K) itg) (tt := rdT (Y.kb X.K) (fun _ _ => False) (evC Φ ic)) (te := rd (Y.kb X.K) (fun _ _ => False) (evE Φ ie) (lk ie) (lkI ie) (fresh ie)) hh hB (by rw [ok.N]; exact ok.nd) (gloB_ok ok hgl) (ok.blt _ hbl) (ha.2 Y W Φ X ok) (plainE_star pl.1 _ _) bo (fun s H C cl fp => hg Y _ Φ _ (cx_blk ok s H scope C cl fp)) (fun s H C cl fp => hc Y _ Φ _ (cx_blk ok s H scope C cl fp))
    (fun s H C cl fp => he.2 Y _ Φ _ (cx_blk ok s H scope C cl fp))) fun σ H Q h => ?_
  obtain ⟨ρ, F, H0, er, h⟩ := comp_readB ht h
  refine ⟨ρ, F, H0, er, (evEs_len (RP.bind h)).mono fun ps ⟨el, hp⟩ vs H1 s1 r1 => ?_⟩
  match ps, el with
  | [z], _ =>
    obtain ⟨v, rfl, r⟩ := reps1 r1
    cases z with
    | int i =>
      have e := rep_int_v r
      subst e
      obtain ⟨c, hp⟩ := RP.guard hp
      obtain ⟨c1, c2⟩ := ends62_ok c
      exact ⟨i, rfl, c1, c2, hp _ H1 s1 itOk_range⟩
    | _ => exact False.elim hp
end
/-! ### a def that is called while an exception is handled -/
section
variable {P : Program} {w : World} {K : PySem.W.Frag} {mg : Str → Option Value} {base : Heap} {CX : CXT} {k : Nat} {f : Addr} {fd : FuncData} {x qual : Str} {params : Arguments} {body : List Stmt} {scope : Scope} {dvs : List V} {kws : List (Str × V)} {N ps : List Str} {sp : Sp}
/-- the context of such a def's body -/
def cxT (CX : CXT) (P : Program) (w : World) (K : PySem.W.Frag) (mg : Str → Option Value) (base : Heap) (N : List Str) (qual : Str) (scope : Scope) (f : Addr) (cd : Value) (A : Around) (outer : List Env) (s : Shared) (H : Hp) (E : XK) : Cx :=
  { cxOf CX P w K mg base N qual scope f cd A outer s H E with calm := false }
theorem FunD.hot (F : FunD K x qual params body scope dvs kws f fd) (S : FnScope N ps scope) (len : ∀ vs H Q E, sp vs H Q E → vs.length = ps.length)
    (hbody : ∀ (cdv : Value) (A : Around) (outer : List Env) (s : Shared) (H : Hp) (vs : List V) (Q : VK) (E : XK) (a : Addr) (cls : Value), A.handled = some (.ref a) → H a = some (ExH cls a) → L2H.RoomH k (A.deeper (envOfC qual scope s.heap.objs.size f cdv)) → sp vs H Q E →
      ∃ t, PSs (cxT CX P w K mg base N qual scope f cdv A outer s H E) body t ∧ t { nx := fun _ H' => Q .non H', rt := Q } (start N vs) H) : FnT P w K mg base CX (k + 1) f fd ps sp := by
  obtain ⟨oc, od, dV, kV, doc, pm, an, cdv, ct, osl, rfl, lk, hcd, _, _⟩ := F.ex
  refine ⟨len, fun A outer s H args us vs Q E a cls hr hh hx e0 hb r hsp => ?_⟩
  have KX : K.In s.heap := e0.mod.kin.keeps fun b o e => (e0.bs b o e).1
  have fb := e0.mod.kin _ _ lk
  have pin : L2H.PinOk outer H s (f, ⟨oc, od, .func (PySem.W.fnOf x qual params body scope dV kV doc pm an cdv ct), osl⟩) := ⟨(e0.bs _ _ fb).1, (e0.bs _ _ fb).2, fun hm => (by
    have q := (e0.funs.mem hm).1
    rw [fb] at q
    cases q), fun v (z : Data.func _ = Data.cell v) => by cases z⟩
  have kinds : ∀ y ∈ ps.zip us, scope.names.lookup y.1 = some .local ∨ (scope.names.lookup y.1 = some .cell ∧ ((cellsFrom (s.heap.objs.size + 1) scope.names []).lookup y.1).isSome = true) := fun ⟨n, v⟩ hy =>
    (S.par n (List.of_mem_zip hy).1).elim .inl fun q => .inr ⟨q, PySem.W.cellsFrom_some _ _ _ (.inl q)⟩
  refine codeAny_call_function hr.depth (KX _ _ lk) rfl S.co S.gen rfl (PySem.W.codeRec_of KX hcd) (hb _ _ _ _ (wpAny_newFunctionEnv_cells S.kind kinds fun env he s1 ic => ?_))
  subst he
  refine ⟨(e0.mod.nolimit.keeps fun b o e => (e0.bs b o e).1).keeps ic.toInCall.keep, codeAny_func ?_⟩
  obtain ⟨t, ht, hq⟩ := hbody cdv A outer s H vs Q E a cls hh hx (hr.deeper _) hsp
  have J := L2H.inv_startH (CX := CX) (N := N) (cd := cdv) (f := f) (E := E) (A := A) S pin e0 (len _ _ _ _ hsp) r ic
  have I : Inv (cxT CX P w K mg base N qual scope f cdv A outer s H E) [] (start N vs) H s1 :=
    ⟨⟨J.ok.mod, J.ok.kind, J.ok.glob, J.ok.blt, J.ok.above, J.ok.inj, J.ok.has, J.ok.cab, J.ok.hd, J.ok.frames, J.ok.stk, J.ok.exf, J.ok.bs, J.ok.bsz, J.ok.noex, J.ok.exfs, J.ok.funs, J.ok.frf⟩,
      J.os, J.bare, J.base, J.loc, J.cell, J.free, J.freeC, fun p hp => absurd (show p ∈ ([] : List (Addr × Obj)) ++ [] from hp) (by simp), J.hok, J.len⟩
  refine wpAny_mono (ht.run [] s1 (start N vs) H _ I hq) (fun fl s' hs => ?_) fun e s' hs => hs
  cases fl with
  | ret u =>
    obtain ⟨v, σ', H', J2, rv, q⟩ := hs
    exact ⟨v, H', J2.os, J2.bare, J2.base, J2.hok, rv, q⟩
  | next =>
    obtain ⟨σ', H', J2, q⟩ := hs
    exact ⟨V.non, H', J2.os, J2.bare, J2.base, J2.hok, rfl, q⟩
  | brk =>
    obtain ⟨_, _, _, q⟩ := hs
    exact q.elim
  | cont =>
    obtain ⟨_, _, _, q⟩ := hs
    exact q.elim
end
/-! ### its call, in the suite of except -/
section
variable {X : Cx} {k n : Nat} {f a : Addr} {fd : FuncData} {ps : List Str} {sp : Sp} {x y : Str} {q pos p2 : Pos} {i : Nat} {pn : List (Addr × Obj)}
/-- x(y), y the exception that is handled -/
def tCallT (sp : Sp) (a : Addr) (i : Nat) : TE := fun σ H Q => σ[i]? = some (some (.ref a)) ∧ (∃ cls, H a = some (ExH cls a)) ∧ sp [.ref a] H Q E0
theorem pe_callT2 (F : FnT X.prog X.w X.K X.mg X.base (CX1 X.prog X.w) k f fd ps sp) (hr : L2H.RoomH k (X.suite a pn).A) (hg : Gl X x) (hm : X.mg x = some (.ref f)) (hk : PySem.W.keepIn X.K (.ref f) = true) (hb : Binds X.K fd ps [])
    (hi : X.N[i]? = some y) (hv : Vis X.env.scope y) (n1 : (x == ("__debug__" : Str)) = false) (n2 : (y == ("__debug__" : Str)) = false) (n3 : (y == ("__classdict__" : Str)) = false) : PE (X.suite a pn) (.Call (.Name x q) [.Name y p2] [] pos) (tCallT sp a i) := by
  refine ⟨fun pins s σ H Q I ⟨es, ⟨cls, ex⟩, h⟩ => ?_⟩
  have pv : PE (X.suite a pn) (.Name y p2) (tVar i) := pe_var (X := X.suite a pn) hi hv n2 n3
  refine wpAny_Call_Name_kw (ld_glob (X := X.suite a pn) I hg hm ?_ n1)
  have pa : PA (X.suite a pn) [.Name y p2] (tCons (tVar i) tNil) := pa_cons pv pa_nil
  have hq : tCons (tVar i) tNil σ H (fun vs H1 => vs = [V.ref a] ∧ H1 = H) := ⟨.ref a, es, rfl, rfl⟩
  refine PySem.W.callWith_K (h₀ := X.base) I.ok.mod.kin hk (thn (pa.run pos pins s σ H _ I hq) fun us s1 hh => ?_) rfl rfl
  obtain ⟨vs, H1, I1, r, e1, e2⟩ := hh
  subst e1 e2
  refine ⟨I1.kIn, ?_⟩
  have hl : us.length = ps.length := by rw [← r.length]; exact F.len _ _ _ _ h
  have b := hb s1 us I1.kIn (by rw [List.append_nil]; exact hl)
  rw [List.append_nil] at b
  refine wpAny_call (codeAny_mono (F.run (X.suite a pn).A X.stack s1 _ ⟨us, []⟩ us [.ref a] Q E0 a cls hr rfl ex I1.env0 b r h) fun r s' hq => ?_)
  cases r with
  | error e =>
    obtain ⟨_, _, _, _, _, _, _, _, _, _, _, _, q, _⟩ := hq
    exact q.elim
  | ok fl =>
    cases fl with
    | ret u => exact I1.after hq
    | next => exact False.elim hq
    | brk => exact False.elim hq
    | cont => exact False.elim hq
end
section
variable {T : Tb} {fr : Bool} {x y z cn : Str} {pos p2 p p3 p4 p5 pos' np : Pos}
theorem ss_tryK {b : TB} {n i j : Nat} {I : FnI} {body : List Stmt} (hcm : T.cm = true) (htp : T.tp = true) (hcn : cn ∈ T.cls) (hg : gloB T.scope cn = true) (hn : nameB cn = true) (hN : T.N[i]? = some y) (hloc : T.scope.names.lookup y = some .local) (hny : nameB y = true)
    (hf : T.fnh.lookup x = some (n, I)) (hgx : gloB T.scope x = true) (hnx : nameB x = true) (h1 : I.ps.length = 1) (hNj : T.N[j]? = some z) (hlc : locB T z = true) (hb : STB T fr body b) :
    SS T fr (.Try body [.ExceptHandler (some (.Name cn np)) (some y) [.Assign [.Name z p3] (.Call (.Name x p) [.Name y p2] [] p4) p5] pos'] [] [] pos) (.tryx b cn (some i) [.asg (.nm j) (.call n I.fr [.var i] [])]) := fun Y W Φ w X ok => by
  obtain ⟨n1, _, _⟩ := nameB_ok hn
  obtain ⟨m1, _, _⟩ := nameB_ok hnx
  obtain ⟨y1, y2, _⟩ := nameB_ok hny
  obtain ⟨hm, hcl⟩ := ok.cls cn hcn
  obtain ⟨s1, s2⟩ := ok.stk htp
  obtain ⟨f, fd, gm, gk, G, gb⟩ := ok.fnh x n I hf
  obtain ⟨l1, l2⟩ := locB_ok ok hlc
  have hr := ok.room hcm
  have hyl : X.env.scope.names.lookup y = some .local := by rw [ok.sc]; exact hloc
  refine PS.imp (ps_tryX (i := i) s1 s2 (by rw [ok.N]; exact ok.nd) (by rw [ok.N]; exact hN) (by unfold Env.kindOf; rw [ok.sc]; exact hloc) ⟨gloB_ok ok hg, n1, .inl hm⟩ (ok.tk htp)
    (tb := fun Wx => rdB (Y.kb X.K) fr Wx (evTB Φ b)) (fun Wx pn xe tk own => hb Y W Φ X ok Wx pn xe tk own)
    (ts := fun a => fun D σ H => σ[i]? = some (some (.ref a)) ∧ (∃ cls, H a = some (ExH cls a)) ∧ ∃ ρ F H0 c, EnvRep (Y.kb X.K) F H0 H σ ρ ∧ ρ[i]? = some (some (false, exV c [])) ∧ RP (fun _ _ => False) (evSs Φ w [.asg (.nm j) (.call n I.fr [.var i] [])] ρ) (FlP (Y.kb X.K) F H0 fr D)) (fun a pn => ?_)) fun D σ H ⟨ρ, F, H0, er, hh⟩ => ?_
  · refine pss_one (PS.imp (ps_set (X := X.suite a pn) (by rw [ok.N]; exact ok.nd) (by rw [ok.N]; exact hNj) l1 (pe_callT2 (pn := pn) (i := i) (y := y) G ⟨hr.dp, hr.un⟩ (gloB_ok ok hgx) gm gk gb (by rw [ok.N]; exact hN) (.inl hyl) m1 y1 y2) (notComp_sw (by rfl) _ _ _) l2) fun D σ H ⟨ei, ex, hh⟩ => ?_)
    obtain ⟨ρ, F, H0, c, er, ec, hh⟩ := hh
    rw [evSs_one] at hh
    unfold evS at hh
    have ev : evE Φ (.call n I.fr [.var i] []) ρ = Φ n [exV c []] := by
      unfold evE evEs
      unfold evE
      rw [ec]
      unfold evEs
      rfl
    have hh := RP.bind hh
    rw [ev] at hh
    obtain ⟨v, e1, r1⟩ := er.val i _ ec
    have r2 : Rep X.K (FX F (lk (.call n I.fr [.var i] [])) σ ρ) H (exV c []) v := by
      refine Rep.sub (FX.mono fun _ z => by cases z) _ _ r1
    rw [ei] at e1
    cases e1
    refine ⟨ei, ex, h1.symm, FX F (lk (.call n I.fr [.var i] [])) σ ρ, [exV c []], er.ftX _, by unfold Reps; exact ⟨r2, by unfold Reps; trivial⟩, ?_⟩
    refine (hh.monoW fun _ _ z => z.elim).mono fun q hq v H' s r => ?_
    exact store_read (itg := .nm j) (ie := .call n I.fr [.var i] []) er s r hq
  · refine ⟨ρ, F, H0, er, ?_⟩
    unfold evS at hh
    cases eb : evTB Φ b ρ with
    | ok fl => rw [eb] at hh; exact hh
    | bad => rw [eb] at hh; exact False.elim hh
    | ex c as =>
      rw [eb] at hh
      have hh : RP W (handV (subX c cn) as ((evSs Φ w [.asg (.nm j) (.call n I.fr [.var i] [])] (setX (some i) c ρ)).bind fun fl => .ok (unsetF (some i) fl)) c) (FlP (Y.kb X.K) F H0 fr D) := hh
      show RX _ _ _ _ c as
      rintro cls d H' sm ⟨rfl, rfl, rfl, ex⟩
      have q := ((exOk_ok ex).al cn hcl).2
      have er' := er.grow sm
      refine ⟨rfl, ?_⟩
      cases es : subX c cn with
      | none => rw [es] at hh; exact False.elim hh
      | some t =>
        rw [es] at q hh
        refine ⟨t, q, fun et a na => ?_, fun et => ?_⟩
        · subst et
          obtain ⟨_, hh⟩ := RP.guard (show RP W (guardR ([] : List PyData).isEmpty ((evSs Φ w [.asg (.nm j) (.call n I.fr [.var i] [])] (setX (some i) c ρ)).bind fun fl => .ok (unsetF (some i) fl)).calm) _ from hh)
          have er2 := er'.grow (upd_same_grow (o := ExH (.ref (He.ga X.K c)) a) na)
          have rv : Rep X.K (FX F [] σ ρ) (upd H' a (ExH (.ref (He.ga X.K c)) a)) (exV c []) (.ref a) := by
            unfold exV Rep
            exact ⟨a, rfl, .inl ⟨c, [], rfl, rfl, upd_same, ex⟩⟩
          have hh := RP.bind (RP.calm (W' := fun _ _ => False) hh)
          have hi : i < ρ.length := by
            refine Nat.lt_of_not_le fun hle => ?_
            have e0 : (setX (some i) c ρ)[i]? = none := by
              show (ρ.set i _)[i]? = none
              rw [List.getElem?_eq_none]
              rw [List.length_set]
              exact hle
            rw [evSs_one] at hh
            unfold evS evE evEs evE at hh
            rw [e0] at hh
            exact hh
          refine ⟨List.getElem?_set_self (by rw [er.len]; exact hi), ⟨_, upd_same⟩, ρ.set i (some (false, exV c [])), F, H0, c, er2.set i rv, List.getElem?_set_self hi, ?_⟩
          refine hh.mono fun fl hfl => ?_
          cases fl with
          | nx ρ1 => exact fun σ2 H2 e2 => hfl _ _ (e2.unset i)
          | bk ρ1 => exact fun σ2 H2 e2 => hfl _ _ (e2.unset i)
          | ct ρ1 => exact fun σ2 H2 e2 => hfl _ _ (e2.unset i)
          | rt p => exact hfl
        · subst et
          exact ⟨er'.bs.trans er'.same, c, [], hh, rfl, rfl, rfl, ex⟩
end
end L2.Pu
namespace L2.Pu
open PySem PySem.Spec PyProof.Rows
/-! ### for over a list of its own that it keeps: the body's statements do not touch the list's name -/
def FlK (K : KB) (F : Addr → Prop) (H0 : Hp) (fr : Bool) (i : Nat) (a : Addr) (D : Ends) : Fl → Prop
  | .nx ρ => ∀ σ H, σ[i]? = some (some (.ref a)) → EnvRep K F H0 H σ ρ → D.nx σ H
  | .rt p => ∀ v H, Same H0 H → RepR K F H0 H fr p v → D.rt v H
  | _ => False
def rdK (K : KB) (W : XW) (fr : Bool) (i : Nat) (ev : PEnv → R Fl) : TS := fun D σ H => ∃ ρ F H0 a, σ[i]? = some (some (.ref a)) ∧ EnvRep K F H0 H σ ρ ∧ RP W (ev ρ) (FlK K F H0 fr i a D)
def SK (T : Tb) (fr : Bool) (i : Nat) (st : Stmt) (s : S) : Prop := ∀ (Y : Xsys) (W : XW) (Φ : Nat → List PyData → R PyData) (w : Nat) (X : Cx), CxOk Y W T Φ X → PS X st (rdK (Y.kb X.K) W fr i (evS Φ w s))
def SKs (T : Tb) (fr : Bool) (i : Nat) (st : List Stmt) (s : List S) : Prop := ∀ (Y : Xsys) (W : XW) (Φ : Nat → List PyData → R PyData) (w : Nat) (X : Cx), CxOk Y W T Φ X → PSs X st (rdK (Y.kb X.K) W fr i (evSs Φ w s))
theorem intsP_of : ∀ {xs : List PyData} {l : List Int}, intsP xs = some l → xs = l.map .int
  | [], l, h => by cases h; rfl
  | x :: xs, l, h => by
    cases x with
    | int j =>
      have h : (intsP xs).map (fun ns => j :: ns) = some l := h
      cases e : intsP xs with
      | none => rw [e] at h; cases h
      | some m =>
        rw [e] at h
        cases h
        rw [intsP_of e]; rfl
    | _ => cases h
theorem isO_ok {ρ : PEnv} {i : Nat} {l : List Int} (h : isO ρ i l = true) : ρ[i]? = some (some (true, .list (l.map .int))) := by
  unfold isO at h
  split at h
  · rename_i ys e
    split at h
    · rename_i m em
      have := of_decide_eq_true h
      subst this
      rw [e, intsP_of em]
    · cases h
  · cases h
theorem reps_intsV {K : PySem.W.Frag} {G : Addr → Prop} {H : Hp} : ∀ {l : List Int} {vs : List V}, Reps K G H (l.map .int) vs → vs = l.map V.int
  | [], [], _ => rfl
  | [], _ :: _, h => by unfold Reps at h; exact h.elim
  | _ :: _, [], h => by unfold Reps at h; exact h.elim
  | j :: l, v :: vs, h => by
    rw [List.map_cons] at h
    unfold Reps at h
    rw [rep_int_v h.1, reps_intsV h.2]; rfl
section
variable {T : Tb} {fr : Bool} {x y : Str} {pos p p2 p3 : Pos} {a c e : Expr} {ic ie : E} {i k : Nat} {st : Stmt} {s : S} {sts : List Stmt} {ss : List S}
theorem sk_nil : SKs T fr i [] [] := fun Y W Φ w X ok => by
  refine ⟨fun pins s σ H D I ⟨ρ, F, H0, ad, ha, er, h⟩ => pss_nil.run pins s σ H D I ?_⟩
  unfold evSs at h
  exact h σ H ha er
theorem sk_cons (h1 : SK T fr i st s) (h2 : SKs T fr i sts ss) : SKs T fr i (st :: sts) (s :: ss) := fun Y W Φ w X ok => by
  refine PSs.imp (pss_cons (h1 Y W Φ w X ok) (h2 Y W Φ w X ok)) fun D σ H ⟨ρ, F, H0, ad, ha, er, h⟩ => ?_
  unfold evSs at h
  refine ⟨ρ, F, H0, ad, ha, er, ?_⟩
  cases eq : evS Φ w s ρ with
  | bad => rw [eq] at h; exact h.elim
  | ex c as => rw [eq] at h; exact h
  | ok fl =>
    rw [eq] at h
    cases fl with
    | nx ρ2 => exact fun σ' H' hs e' => ⟨ρ2, F, H0, ad, hs, e', h⟩
    | rt q => exact h
    | bk ρ2 => exact h.elim
    | ct ρ2 => exact h.elim
theorem sk_set (hik : k ≠ i) (hN : T.N[k]? = some x) (hl : locB T x = true) (ha : SE T a ie) (nc : notComp a = true) : SK T fr i (.Assign [.Name x p] a pos) (.asg (.nm k) ie) := fun Y W Φ w X ok => by
  obtain ⟨h1, h2⟩ := locB_ok ok hl
  refine PS.imp (ps_set (by rw [ok.N]; exact ok.nd) (by rw [ok.N]; exact hN) h1 (ha.2 Y W Φ X ok) (notComp_sw nc _ _ _) h2) fun D σ H ⟨ρ, F, H0, ad, ea, er, h⟩ => ?_
  unfold evS at h
  refine ⟨ρ, F, H0, er, (RP.bind h).mono fun q hq v H' s r _ => ?_⟩
  have g : gP (Y.kb X.K) (.nm k) v σ H' (fun σ' H'' => σ'[i]? = some (some (.ref ad)) → D.nx σ' H'') := store_read (D := { D with nx := fun σ' H'' => σ'[i]? = some (some (.ref ad)) → D.nx σ' H'' }) (fr := fr) (W := W) (itg := .nm k) er s r (hq.mono fun fl hfl => by
    cases fl with
    | nx ρ2 => exact fun σ' H'' e' hs => hfl σ' H'' hs e'
    | rt z => exact hfl
    | bk _ => exact hfl.elim
    | ct _ => exact hfl.elim)
  have g : (σ.set k (some v))[i]? = some (some (.ref ad)) → D.nx (σ.set k (some v)) H' := g
  exact g (by rw [set_other hik]; exact ea)
theorem sk_ifr {b : Bool} {j : Nat} (hc : ST T c ic) : SK T fr i (.If c [.Return (some (.Constant (.bool b) j p)) p2] [] pos) (.ife ic [.ret fr (.cst (.bool b))] []) := fun Y W Φ w X ok => by
  refine PS.imp (ps_if (hc Y W Φ X ok) (pss_one (ps_ret pe_bl)) pss_nil) fun D σ H ⟨ρ, F, H0, ad, ea, er, h⟩ => ?_
  unfold evS at h
  rw [← bind_assoc] at h
  refine ⟨ρ, F, H0, er, (RP.bind h).mono fun t ht H' s => ?_⟩
  cases t with
  | true =>
    have ht : RP W (evSs Φ w [.ret fr (.cst (.bool b))] ρ) (FlK (Y.kb X.K) F H0 fr i ad D) := ht
    rw [evSs_one] at ht
    unfold evS evE at ht
    have ht : RP W (retV fr (.cst (.bool b)) ρ (.bool b)) (FlK (Y.kb X.K) F H0 fr i ad D) := ht
    unfold retV at ht
    obtain ⟨_, ht⟩ := RP.guard ht
    exact ht (.bl b) H' (er.same.trans s) (repR_of rep_bool rfl)
  | false =>
    have ht : RP W (evSs Φ w [] ρ) (FlK (Y.kb X.K) F H0 fr i ad D) := ht
    unfold evSs at ht
    exact ht σ H' ea (er.grow s)
theorem ss_lpk (hcm : T.cm = true) (hik : k ≠ i) (hx : T.N[i]? = some x) (hvx : visB T.scope x = true) (hnx : nameB x = true) (hy : T.N[k]? = some y) (hly : locB T y = true) (hb : SKs T fr i sts ss) :
    SS T fr (.For (.Name y p) (.Name x p2) sts [] pos) (.lpk i k ss) := fun Y W Φ w X ok => by
  obtain ⟨n1, n2, _⟩ := nameB_ok hnx
  obtain ⟨l1, l2⟩ := locB_ok ok hly
  have pv : PE X (.Name x p2) (tVar i) := pe_var (by rw [ok.N]; exact hx) (by rw [ok.sc]; exact visB_ok hvx) n1 n2
  have pg : PG X (.Name y p) (gName k) := pg_name (by rw [ok.N]; exact ok.nd) (by rw [ok.N]; exact hy) l1 l2
  refine PS.imp (ps_for ok.own (ok.calm hcm) (pi_list pv) pg (hb Y W Φ w X ok) (fun _ => rfl)) fun D σ H ⟨ρ, F, H0, er, h⟩ => ?_
  unfold evS at h
  cases e0 : ρ[i]? with
  | none => rw [e0] at h; exact h.elim
  | some sl =>
  cases sl with
  | none => rw [e0] at h; exact h.elim
  | some bp =>
  obtain ⟨bb, q⟩ := bp
  cases bb with
  | false => rw [e0] at h; exact h.elim
  | true =>
  cases q with
  | list xs =>
    rw [e0] at h
    have h : RP W ((optR (intsP xs)).bind fun l => forK (evSs Φ w ss) i k l l ρ) (FlP (Y.kb X.K) F H0 fr D) := h
    cases ei : intsP xs with
    | none => rw [ei] at h; exact h.elim
    | some l =>
      rw [ei] at h
      have h : RP W (forK (evSs Φ w ss) i k l l ρ) (FlP (Y.kb X.K) F H0 fr D) := h
      obtain ⟨ad, ea, _, _, vs0, eh, _⟩ := er.ow i _ e0
      have o0 : isO ρ i l = true := by
        unfold isO
        rw [e0]
        show (match intsP xs with | some m => decide (m = l) | none => false) = true
        rw [ei]
        exact decide_eq_true rfl
      refine ⟨.ref ad, ea, ad, rfl, ⟨vs0, .inl (.inl eh)⟩, ?_⟩
      refine ⟨fun n m σ2 H2 => m = l.length - n ∧ n ≤ l.length ∧ ∃ ρ2, σ2[i]? = some (some (.ref ad)) ∧ EnvRep (Y.kb X.K) F H0 H2 σ2 ρ2 ∧ isO ρ2 i l = true ∧ RP W (forK (evSs Φ w ss) i k l (l.drop n) ρ2) (FlP (Y.kb X.K) F H0 fr D), ⟨_, rfl, Nat.zero_le _, ρ, ea, er, o0, h⟩, ?_⟩
      rintro n m σ2 H2 ⟨rfl, hle, ρ2, ea2, er2, o2, hgo⟩
      obtain ⟨ad2, f2, _, _, vs, eh2, rr⟩ := er2.ow i _ (isO_ok o2)
      rw [ea2] at f2
      cases f2
      have ev := reps_intsV rr
      subst ev
      by_cases hlt : n < l.length
      · have gx : (l.map V.int)[n]? = some (.int l[n]) := by rw [List.getElem?_map, List.getElem?_eq_getElem hlt]; rfl
        refine .inr ⟨⟨_, _, .inl (.inl eh2), gx⟩, fun σ' H' => ∃ ρ', σ'[i]? = some (some (.ref ad)) ∧ EnvRep (Y.kb X.K) F H0 H' σ' ρ' ∧ isO ρ' i l = true ∧ RP W (forK (evSs Φ w ss) i k l (l.drop (n + 1)) ρ') (FlP (Y.kb X.K) F H0 fr D), fun σ' H' q => ⟨l.length - (n + 1), by omega, rfl, hlt, q⟩, ?_⟩
        rintro v H3 ⟨rfl, yv⟩
        have := yv _ (.inl (.inl eh2))
        rw [gx] at this
        cases this
        rw [List.drop_eq_getElem_cons hlt] at hgo
        unfold forK at hgo
        show rdK (Y.kb X.K) W fr i (evSs Φ w ss) _ (σ2.set k (some (.int l[n]))) H3
        refine ⟨ρ2.set k (some (false, .int l[n])), F, H0, ad, by rw [set_other hik]; exact ea2, er2.set k rep_int, (RP.bind hgo).mono fun fl hfl => ?_⟩
        cases fl with
        | nx ρ3 =>
          obtain ⟨o3, hfl⟩ := RP.guard hfl
          exact fun σ' H' hs e' => ⟨ρ3, hs, e', o3, hfl⟩
        | rt z => exact hfl
        | bk _ => exact hfl.elim
        | ct _ => exact hfl.elim
      · have e : n = l.length := by omega
        subst e
        rw [List.drop_length] at hgo
        unfold forK at hgo
        exact .inl ⟨⟨_, .inl (.inl eh2), by rw [List.length_map]; exact Nat.le_refl _⟩, hgo σ2 H2 er2⟩
  | _ => rw [e0] at h; exact h.elim
/-- a list made of things without lists leans on nothing -/
theorem ss_setK {j : Nat} (hN : T.N[j]? = some x) (hl : locB T x = true) (ha : SE T a ie) (nc : notComp a = true) : SS T fr (.Assign [.Name x p] a pos) (.asf j ie) := fun Y W Φ w X ok => by
  obtain ⟨h1, h2⟩ := locB_ok ok hl
  refine PS.imp (ps_set (by rw [ok.N]; exact ok.nd) (by rw [ok.N]; exact hN) h1 (ha.2 Y W Φ X ok) (notComp_sw nc _ _ _) h2) fun D σ H ⟨ρ, F, H0, er, h⟩ => ?_
  unfold evS at h
  exact ⟨ρ, F, H0, er, (RP.bind h).mono fun q hq v H' s r _ => flat_read er s r hq⟩
end
end L2.Pu
namespace L2.Pu
open PySem PySem.Spec PyProof.Rows
/-! ### from the text to the pure language, each with its proof -/
def slotOf (N : List Str) (x : Str) : Nat := N.findIdx fun y => decide (y = x)
def XE (T : Tb) (e : Expr) : Type := { i : E // SE T e i }
/-- len of one value, where the def asks for it: leans on nothing -/
def noLean {T : Tb} {e : Expr} (l : Bool) (x : XE T e) : XE T e := match l, x with
  | true, ⟨.bi .len [_], h⟩ => ⟨_, se_len0 h⟩
  | _, x => x
def XT (T : Tb) (e : Expr) : Type := { i : E // ST T e i }
def XWt (T : Tb) (e : Expr) : Type := { i : E // SW T e i }
def XA (T : Tb) (es : List Expr) : Type := { is : List E // SA T es is }
def XO (T : Tb) (e : Option Expr) : Type := { i : Option E // SO T e i }
def XC (T : Tb) (es : List Expr) : Type := { i : Option E // SC T es i }
def XI (T : Tb) (tg iter : Expr) : Type := { q : Src × List E // SI T tg iter q.1 q.2 }
def XG (T : Tb) (tg : Expr) : Type := { q : Tg // SG T tg q }
def XGs (T : Tb) (ts : List Expr) : Type := { q : List Nat // SGs T ts q }
def biOf (x : Str) (n : Nat) : Option Bi :=
  if n = 1 then (if x = "len" then some .len else if x = "list" then some .list1 else if x = "tuple" then some .tuple1 else if x = "int" then some .int1 else if x = "sorted" then some .sorted1 else if x = "sum" then some .sum1 else if x = "max" then some .max1 else if x = "any" then some .any1 else if x = "str" then some .str1 else none)
  else if n = 2 then (if x = "max" then some .max2 else if x = "min" then some .min2 else none) else none
def trGs (T : Tb) : (ts : List Expr) → Option (XGs T ts)
  | [] => some ⟨[], sgs_nil⟩
  | .Name x pos :: ts => (trGs T ts).bind fun r => if h : T.N[slotOf T.N x]? = some x ∧ locB T x = true then some ⟨slotOf T.N x :: r.1, sgs_cons h.1 h.2 r.2⟩ else none
  | _ :: _ => none
def trG (T : Tb) : (tg : Expr) → Option (XG T tg)
  | .Name x pos => if h : T.N[slotOf T.N x]? = some x ∧ locB T x = true then some ⟨.nm (slotOf T.N x), sg_name h.1 h.2⟩ else none
  | .Tuple ts k pos => (trGs T ts).bind fun r => if h : T.cm = true then some ⟨.tp r.1, sg_tup h r.2⟩ else none
  | _ => none
/-- a comprehension's own names -/
def ownOf (N : List Str) : Expr → List (Str × Nat)
  | .Name x _ => [(x, slotOf N x)]
  | .Tuple ts _ _ => ts.filterMap fun
    | .Name x _ => some (x, slotOf N x)
    | _ => none
  | _ => []
def trN (T : Tb) (x : Str) (pos : Pos) : Option (XE T (.Name x pos)) :=
  if h : T.N[slotOf T.N x]? = some x ∧ visB T.scope x = true ∧ nameB x = true then some ⟨.var (slotOf T.N x), se_var h.1 h.2.1 h.2.2⟩
  else match hl : T.glb.lookup x with
    | some p => if h : gloB T.scope x = true ∧ nameB x = true ∧ isListP p = false then some ⟨.cst p, se_glob h.1 h.2.1 hl h.2.2⟩ else none
    | none => none
def tyOf (x : Str) : Option String := match bootBuiltins x with
  | some (.type n) => some n
  | _ => none
theorem tyOf_ok {x : Str} {n : String} (h : tyOf x = some n) : bootBuiltins x = some (.type n) := by
  unfold tyOf at h
  split at h
  · rename_i m e
    cases h
    exact e
  · cases h
def isDn (T : Tb) : Expr → Bool
  | .Name x _ => T.dn.contains x
  | _ => false
def isTn (T : Tb) : Expr → Bool
  | .Name x _ => T.tn.contains x
  | _ => false
theorem tn_ne {T : Tb} {x : Str} (h : T.tn.contains x = true) : T.tn ≠ [] := fun z => by rw [z] at h; cases h
theorem isTn_ne {T : Tb} {e : Expr} (h : isTn T e = true) : T.tn ≠ [] := by
  cases e with
  | Name x p => exact tn_ne h
  | _ => cases h
def cmOf (op : CmpOp) : Option { o : Cm // cmA o = op ∧ o ≠ .isn ∧ o ≠ .notn } := match op with
  | .Eq => some ⟨.eq, rfl, by decide, by decide⟩
  | .NotEq => some ⟨.ne, rfl, by decide, by decide⟩
  | .Lt => some ⟨.lt, rfl, by decide, by decide⟩
  | .LtE => some ⟨.le, rfl, by decide, by decide⟩
  | .Gt => some ⟨.gt, rfl, by decide, by decide⟩
  | .GtE => some ⟨.ge, rfl, by decide, by decide⟩
  | .In => some ⟨.inn, rfl, by decide, by decide⟩
  | .NotIn => some ⟨.notin, rfl, by decide, by decide⟩
  | _ => none
theorem se_chain2 {T : Tb} {a b c : Expr} {ia ib ic : E} {op op' : CmpOp} {pos : Pos} (o : { o : Cm // cmA o = op ∧ o ≠ .isn ∧ o ≠ .notn }) (o' : { o : Cm // cmA o = op' ∧ o ≠ .isn ∧ o ≠ .notn }) (ha : SE T a ia) (hb : SE T b ib) (hc : SE T c ic) : SE T (.Compare a [op, op'] [b, c] pos) (.chain o.1 o'.1 ia ib ic) := by
  obtain ⟨o, rfl, h1, h2⟩ := o
  obtain ⟨o', rfl, h3, h4⟩ := o'
  exact se_chain o o' h1 h2 h3 h4 ha hb hc
theorem st_chain2 {T : Tb} {a b c : Expr} {ia ib ic : E} {op op' : CmpOp} {pos : Pos} (o : { o : Cm // cmA o = op ∧ o ≠ .isn ∧ o ≠ .notn }) (o' : { o : Cm // cmA o = op' ∧ o ≠ .isn ∧ o ≠ .notn }) (ha : SE T a ia) (hb : SE T b ib) (hc : SE T c ic) : ST T (.Compare a [op, op'] [b, c] pos) (.chain o.1 o'.1 ia ib ic) := by
  obtain ⟨o, rfl, h1, h2⟩ := o
  obtain ⟨o', rfl, h3, h4⟩ := o'
  exact st_chain o o' h1 h2 h3 h4 ha hb hc
mutual
def trE : Nat → (T : Tb) → (e : Expr) → Option (XE T e)
  | 0, _, _ => none
  | n + 1, T, e => match e with
    | .Name x pos => trN T x pos
    | .Constant c k pos => (match c with
      | .int i => some ⟨_, se_int⟩
      | .bool b => some ⟨_, se_bool⟩
      | .none => some ⟨_, se_none⟩
      | .str s => some ⟨_, se_str⟩
      | _ => none)
    | .JoinedStr [.Constant (.str t) j p1, .FormattedValue a c none p2] pos => if h : c = -1 ∧ (Str.empty ++ t).length ≤ sizeLine then (trE n T a).bind fun ia => some ⟨.fs t ia.1, by obtain ⟨rfl, h2⟩ := h; exact se_fs h2 ia.2⟩ else none
    | .BinOp a op b pos => (match a, op with
      | .List es p2, .Mult => (trAs n T es).bind fun is => (trE n T b).bind fun ib => if h : is.1.length ≤ 1000 then some ⟨.rep is.1 ib.1, se_rep is.2 h ib.2⟩ else none
      | a, op => (trE n T a).bind fun ia => (trE n T b).bind fun ib => (match op with
        | .Add => some ⟨_, se_bin .add ia.2 ib.2⟩
        | .Sub => some ⟨_, se_bin .sub ia.2 ib.2⟩
        | .Mult => some ⟨_, se_bin .mul ia.2 ib.2⟩
        | .FloorDiv => some ⟨_, se_bin .fdiv ia.2 ib.2⟩
        | .Mod => some ⟨_, se_bin .mod ia.2 ib.2⟩
        | .Pow => some ⟨_, se_bin .pow ia.2 ib.2⟩
        | .LShift => some ⟨_, se_bin .shl ia.2 ib.2⟩
        | .RShift => some ⟨_, se_bin .shr ia.2 ib.2⟩
        | .BitAnd => some ⟨_, se_bin .band ia.2 ib.2⟩
        | .BitOr => some ⟨_, se_bin .bor ia.2 ib.2⟩
        | .BitXor => some ⟨_, se_bin .bxor ia.2 ib.2⟩
        | _ => none))
    | .UnaryOp op a pos => (trE n T a).bind fun ia => (match op with
      | .USub => some ⟨_, se_neg ia.2⟩
      | .Not => some ⟨_, se_not ia.2⟩
      | _ => none)
    | .BoolOp op es pos => (match op, es with
      | op, [a] => (trE n T a).map fun ia => ⟨ia.1, se_one ia.2⟩
      | .And, a :: b :: rest => (trE n T a).bind fun ia => (trE n T (.BoolOp .And (b :: rest) pos)).bind fun ib => some ⟨_, se_conj ia.2 ib.2⟩
      | .Or, a :: b :: rest => (trE n T a).bind fun ia => (trE n T (.BoolOp .Or (b :: rest) pos)).bind fun ib => some ⟨_, se_disj ia.2 ib.2⟩
      | _, _ => none)
    | .IfExp c a b pos => (trT n T c).bind fun ic => (trE n T a).bind fun ia => (trE n T b).bind fun ib => some ⟨_, se_ife ic.2 ia.2 ib.2⟩
    | .Compare a ops bs pos => (match ops, bs with
      | [.Is], [.Constant .none k p2] => (trE n T a).map fun ia => ⟨_, se_isn ia.2⟩
      | [.IsNot], [.Constant .none k p2] => (trE n T a).map fun ia => ⟨_, se_notn ia.2⟩
      | [.IsNot], [.Constant (.bool true) k p2] => (trE n T a).map fun ia => ⟨_, se_isntT ia.2⟩
      | [op], [b] => (trE n T a).bind fun ia => (trE n T b).bind fun ib => (match op with
        | .Eq => some ⟨_, se_cmp .eq (by decide) (by decide) ia.2 ib.2⟩
        | .NotEq => some ⟨_, se_cmp .ne (by decide) (by decide) ia.2 ib.2⟩
        | .Lt => some ⟨_, se_cmp .lt (by decide) (by decide) ia.2 ib.2⟩
        | .LtE => some ⟨_, se_cmp .le (by decide) (by decide) ia.2 ib.2⟩
        | .Gt => some ⟨_, se_cmp .gt (by decide) (by decide) ia.2 ib.2⟩
        | .GtE => some ⟨_, se_cmp .ge (by decide) (by decide) ia.2 ib.2⟩
        | .In => some ⟨_, se_cmp .inn (by decide) (by decide) ia.2 ib.2⟩
        | .NotIn => some ⟨_, se_cmp .notin (by decide) (by decide) ia.2 ib.2⟩
        | _ => none)
      | [op, op'], [b, c] => (cmOf op).bind fun o => (cmOf op').bind fun o' => (trE n T a).bind fun ia => (trE n T b).bind fun ib => (trE n T c).bind fun ic => some ⟨_, se_chain2 o o' ia.2 ib.2 ic.2⟩
      | _, _ => none)
    | .Tuple es k pos => (trAs n T es).bind fun is => if h : is.1.length ≤ 1000 then some ⟨_, se_tup is.2 h⟩ else none
    | .List es pos => (trAs n T es).bind fun is => if h : is.1.length ≤ 1000 then some ⟨_, se_lst is.2 h⟩ else none
    | .Subscript a s pos => (match s with
      | .Slice lo hi st p2 => (match st with
        | none => (trE n T a).bind fun ia => (trO n T lo).bind fun il => (trO n T hi).bind fun ih => some ⟨_, se_sl ia.2 il.2 ih.2⟩
        | some _ => none)
      | b => (trE n T a).bind fun ia => (trE n T b).bind fun ib => if isDn T a = true then some ⟨_, se_dget ia.2 ib.2⟩ else (if ht : isTn T a = true then some ⟨_, se_tget (isTn_ne ht) ia.2 ib.2⟩ else some ⟨_, se_idx ia.2 ib.2⟩))
    | .ListComp elt gens scope pos => (match gens with
      | [⟨tg, iter, ifs, asy⟩] => (if ha : asy = 0 then if hh : T.ht = true then (match iter with
          | .Call (.Name x p) [a] [] p2 => (trAs n T [a]).bind fun is => (match is with
            | ⟨[ia], hs⟩ => (trG (T.inner scope) tg).bind fun g => (trC n (T.inner scope) ifs).bind fun c => (trE n (T.inner scope) elt).bind fun ie =>
              (if h : (x = "range" ∧ gloB T.scope "range" = true ∧ ("range" : Str) ∈ T.blts) ∧ blkC T.N T.scope scope (ownOf T.N tg) = true ∧ (tgSlots g.1).all (fun j => ((ownOf T.N tg).map (·.2)).contains j) = true then
                some ⟨.comp ((ownOf T.N tg).map (·.2)) g.1 .rng1 [ia] c.1 ie.1, by
                  subst ha
                  obtain ⟨⟨rfl, h1, h2⟩, h3, h4⟩ := h
                  exact se_compT hh h1 h2 hs h3 (fun j hj => by simpa using (List.all_eq_true.mp h4 j hj)) g.2 c.2 ie.2⟩
              else none)
            | _ => none)
          | _ => none) else (trI n T tg iter).bind fun s => (trG (T.inner scope) tg).bind fun g => (trC n (T.inner scope) ifs).bind fun c => (trE n (T.inner scope) elt).bind fun ie =>
          (if h : (blkC T.N T.scope scope (ownOf T.N tg) = true ∧ (tgSlots g.1).all (fun j => ((ownOf T.N tg).map (·.2)).contains j) = true) ∧ T.cm = true then
            some ⟨.comp ((ownOf T.N tg).map (·.2)) g.1 s.1.1 s.1.2 c.1 ie.1, by
              subst ha
              exact se_comp h.2 s.2 h.1.1 (fun j hj => by simpa using (List.all_eq_true.mp h.1.2 j hj)) g.2 c.2 ie.2⟩
          else none) else none)
      | _ => none)
    | .Call f args kws pos => (match f, args, kws with
      | .Name x p, es, [] => (match hf : T.fns.lookup x with
        | some (id, I) => (match es with
          | [] => if h : (gloB T.scope x = true ∧ nameB x = true ∧ (I.ds.drop (I.ds.length - I.ps.length)).length = I.ps.length) ∧ T.cm = true then some ⟨_, se_call0 h.2 h.1.1 h.1.2.1 hf (Nat.sub_le _ _) h.1.2.2⟩ else none
          | e :: es => (trAs n T (e :: es)).bind fun is => (match is with
            | ⟨[], _⟩ => none
            | ⟨ie :: is, hs⟩ => if h : (gloB T.scope x = true ∧ nameB x = true ∧ (ie :: is).length + (I.ds.drop (I.ds.length - (I.ps.length - (ie :: is).length))).length = I.ps.length) ∧ T.cm = true then
                some ⟨_, se_call h.2 h.1.1 h.1.2.1 hf hs (Nat.sub_le _ _) h.1.2.2⟩ else none))
        | none => (match es with
          | [a, .Name ty p2] => (if hx : x = "isinstance" ∧ ty ∈ T.cls then (trE n T a).bind fun ia => (if h : gloB T.scope "isinstance" = true ∧ ("isinstance" : Str) ∈ T.blts ∧ gloB T.scope ty = true ∧ nameB ty = true then
                some ⟨.isx ty ia.1, by obtain ⟨rfl, hc⟩ := hx; exact se_isx h.1 h.2.1 h.2.2.1 h.2.2.2 hc ia.2⟩ else none)
            else if hx : x = "isinstance" ∧ ty = "ValueError" then (trE n T a).bind fun ia => (if h : gloB T.scope "isinstance" = true ∧ ("isinstance" : Str) ∈ T.blts ∧ gloB T.scope "ValueError" = true ∧ ("ValueError" : Str) ∈ T.blts then
                some ⟨.isx "ValueError" ia.1, by obtain ⟨rfl, rfl⟩ := hx; exact se_isxV h.1 h.2.1 h.2.2.1 h.2.2.2 ia.2⟩ else none)
            else if hx : x = "isinstance" then (match ht : tyOf ty with
            | some tn => (trE n T a).bind fun ia => if h : gloB T.scope "isinstance" = true ∧ ("isinstance" : Str) ∈ T.blts ∧ gloB T.scope ty = true ∧ nameB ty = true ∧ ty ∈ T.blts then
                some ⟨.isi tn ia.1, by subst hx; exact se_isi h.1 h.2.1 h.2.2.1 h.2.2.2.1 h.2.2.2.2 (tyOf_ok ht) ia.2⟩ else none
            | none => none) else
              (match biOf x 2 with
              | none => none
              | some bb => (trAs n T [a, .Name ty p2]).bind fun is => (match is with
                | ⟨[], _⟩ => none
                | ⟨ie :: is, hs⟩ => if h : (gloB T.scope x = true ∧ nameB x = true ∧ x ∈ T.blts ∧ x = biName bb) ∧ (T.cm = true ∨ isInt1 bb = true) then some ⟨_, se_bi h.2 h.1.1 h.1.2.1 h.1.2.2.1 h.1.2.2.2 hs⟩ else none)))
          | [] => none
          | [.Call (.Name y p4) [a] [] p2] => (if hx : x = "list" ∧ y = "range" then (trE n T a).bind fun ia => (if h : T.cm = true ∧ gloB T.scope "list" = true ∧ ("list" : Str) ∈ T.blts ∧ gloB T.scope "range" = true ∧ ("range" : Str) ∈ T.blts then
                some ⟨.lrg ia.1, by obtain ⟨rfl, rfl⟩ := hx; exact se_lrg h.1 h.2.1 h.2.2.1 h.2.2.2.1 h.2.2.2.2 ia.2⟩ else none)
              else if hx : x = "list" ∧ y = "reversed" then (trE n T a).bind fun ia => (if h : T.cm = true ∧ gloB T.scope "list" = true ∧ ("list" : Str) ∈ T.blts ∧ gloB T.scope "reversed" = true ∧ ("reversed" : Str) ∈ T.blts then
                some ⟨.lrev ia.1, by obtain ⟨rfl, rfl⟩ := hx; exact se_lrev h.1 h.2.1 h.2.2.1 h.2.2.2.1 h.2.2.2.2 ia.2⟩ else none)
              else if hx : x = "sorted" ∧ y = "set" then (trE n T a).bind fun ia => (if h : T.cm = true ∧ gloB T.scope "sorted" = true ∧ ("sorted" : Str) ∈ T.blts ∧ gloB T.scope "set" = true ∧ ("set" : Str) ∈ T.blts then
                some ⟨.sset ia.1, by obtain ⟨rfl, rfl⟩ := hx; exact se_sset h.1 h.2.1 h.2.2.1 h.2.2.2.1 h.2.2.2.2 ia.2⟩ else none) else
              (match biOf x 1 with
              | none => none
              | some bb => (trAs n T [.Call (.Name y p4) [a] [] p2]).bind fun is => (match is with
                | ⟨[], _⟩ => none
                | ⟨ie :: is, hs⟩ => if h : (gloB T.scope x = true ∧ nameB x = true ∧ x ∈ T.blts ∧ x = biName bb) ∧ (T.cm = true ∨ isInt1 bb = true) then some ⟨_, se_bi h.2 h.1.1 h.1.2.1 h.1.2.2.1 h.1.2.2.2 hs⟩ else none)))
          | [.Call (.Name y p4) [a, b] [] p2] => (if hx : x = "list" ∧ y = "range" then (trE n T a).bind fun ia => (trE n T b).bind fun ib => (if h : T.cm = true ∧ gloB T.scope "list" = true ∧ ("list" : Str) ∈ T.blts ∧ gloB T.scope "range" = true ∧ ("range" : Str) ∈ T.blts then
                some ⟨.lrg2 ia.1 ib.1, by obtain ⟨rfl, rfl⟩ := hx; exact se_lrg2 h.1 h.2.1 h.2.2.1 h.2.2.2.1 h.2.2.2.2 ia.2 ib.2⟩ else none) else
              (match biOf x 1 with
              | none => none
              | some bb => (trAs n T [.Call (.Name y p4) [a, b] [] p2]).bind fun is => (match is with
                | ⟨[], _⟩ => none
                | ⟨ie :: is, hs⟩ => if h : (gloB T.scope x = true ∧ nameB x = true ∧ x ∈ T.blts ∧ x = biName bb) ∧ (T.cm = true ∨ isInt1 bb = true) then some (noLean T.ln ⟨_, se_bi h.2 h.1.1 h.1.2.1 h.1.2.2.1 h.1.2.2.2 hs⟩) else none)))
          | [.Name y p4] => (if hx : x = "len" ∧ T.dn.contains y = true then (trE n T (.Name y p4)).bind fun ia => (if h : gloB T.scope "len" = true ∧ ("len" : Str) ∈ T.blts then some ⟨.dlen ia.1, by obtain ⟨rfl, _⟩ := hx; exact se_dlen h.1 h.2 ia.2⟩ else none)
              else if hx : x = "sorted" ∧ T.dn.contains y = true then (trE n T (.Name y p4)).bind fun ia => (if h : T.cm = true ∧ gloB T.scope "sorted" = true ∧ ("sorted" : Str) ∈ T.blts then some ⟨.dsrt ia.1, by obtain ⟨rfl, _⟩ := hx; exact se_dsrt h.1 h.2.1 h.2.2 ia.2⟩ else none)
              else if hx : x = "sorted" ∧ T.tn.contains y = true then (trE n T (.Name y p4)).bind fun ia => (if h : T.cm = true ∧ gloB T.scope "sorted" = true ∧ ("sorted" : Str) ∈ T.blts then some ⟨.tsrt ia.1, by obtain ⟨rfl, _⟩ := hx; exact se_tsrt h.1 h.2.1 h.2.2 ia.2⟩ else none)
              else (match biOf x 1 with
              | none => none
              | some bb => (trAs n T [.Name y p4]).bind fun is => (match is with
                | ⟨[], _⟩ => none
                | ⟨ie :: is, hs⟩ => if h : (gloB T.scope x = true ∧ nameB x = true ∧ x ∈ T.blts ∧ x = biName bb) ∧ (T.cm = true ∨ isInt1 bb = true) then some (noLean T.ln ⟨_, se_bi h.2 h.1.1 h.1.2.1 h.1.2.2.1 h.1.2.2.2 hs⟩) else none)))
          | e :: es => (match biOf x (es.length + 1) with
            | none => none
            | some bb => (trAs n T (e :: es)).bind fun is => (match is with
              | ⟨[], _⟩ => none
              | ⟨ie :: is, hs⟩ => if h : (gloB T.scope x = true ∧ nameB x = true ∧ x ∈ T.blts ∧ x = biName bb) ∧ (T.cm = true ∨ isInt1 bb = true) then some (noLean T.ln ⟨_, se_bi h.2 h.1.1 h.1.2.1 h.1.2.2.1 h.1.2.2.2 hs⟩) else none))))
      | .Attribute a at' apos, [b], [] => (if ha : at' = "count" then (trE n T a).bind fun ia => (trE n T b).bind fun ib => if h : noSup a = true ∧ (apos.endLine == pos.line) = true then some ⟨.meth .cnt ia.1 ib.1, by subst ha; exact se_cnt h.1 ia.2 ib.2 h.2⟩ else none
          else if ha : at' = "index" then (trE n T a).bind fun ia => (trE n T b).bind fun ib => if h : noSup a = true ∧ (apos.endLine == pos.line) = true then some ⟨.meth .ix ia.1 ib.1, by subst ha; exact se_ix h.1 ia.2 ib.2 h.2⟩ else none
          else if ha : at' = "join" then (trE n T a).bind fun ia => (trE n T b).bind fun ib => if h : noSup a = true ∧ (apos.endLine == pos.line) = true then some ⟨.jn ia.1 ib.1, by subst ha; exact se_jn h.1 ia.2 ib.2 h.2⟩ else none
          else if ha : at' = "split" then (trE n T a).bind fun ia => (trE n T b).bind fun ib => if h : noSup a = true ∧ (apos.endLine == pos.line) = true then some ⟨.spl ia.1 ib.1, by subst ha; exact se_spl h.1 ia.2 ib.2 h.2⟩ else none
          else none)
      | .Attribute a at' apos, [b, c], [] => (if ha : at' = "get" then (trE n T a).bind fun ia => (trE n T b).bind fun ib => (trE n T c).bind fun ic => if h : noSup a = true ∧ (apos.endLine == pos.line) = true then (if ht : isTn T a = true then some ⟨.tgt2 ia.1 ib.1 ic.1, by subst ha; exact se_tgt2 (isTn_ne ht) h.1 ia.2 ib.2 ic.2 h.2⟩ else some ⟨.dgt2 ia.1 ib.1 ic.1, by subst ha; exact se_dgt2 h.1 ia.2 ib.2 ic.2 h.2⟩) else none else none)
      | .Attribute a at' apos, [], [] => (if ha : at' = "bit_length" then (trE n T a).bind fun ia => if h : noSup a = true ∧ (apos.endLine == pos.line) = true then some ⟨.bitl ia.1, by subst ha; exact se_bitl h.1 ia.2 h.2⟩ else none else none)
      | _, _, _ => none)
    | _ => none
def trT : Nat → (T : Tb) → (e : Expr) → Option (XT T e)
  | 0, _, _ => none
  | n + 1, T, e => match e with
    | .UnaryOp .Not a pos => (trT n T a).map fun ia => ⟨_, st_not ia.2⟩
    | .BoolOp op es pos => (trW n T (.BoolOp op es pos)).map fun ia => ⟨_, st_sw ia.2⟩
    | .Compare a ops bs pos => (match ops, bs with
      | [.Is], [.Constant .none k p2] => (trE n T a).map fun ia => ⟨_, st_isn ia.2⟩
      | [.IsNot], [.Constant .none k p2] => (trE n T a).map fun ia => ⟨_, st_notn ia.2⟩
      | [.IsNot], [.Constant (.bool true) k p2] => (trE n T a).map fun ia => ⟨_, st_isntT ia.2⟩
      | [op], [b] => (trE n T a).bind fun ia => (trE n T b).bind fun ib => (match op with
        | .Eq => some ⟨_, st_cmp .eq (by decide) (by decide) ia.2 ib.2⟩
        | .NotEq => some ⟨_, st_cmp .ne (by decide) (by decide) ia.2 ib.2⟩
        | .Lt => some ⟨_, st_cmp .lt (by decide) (by decide) ia.2 ib.2⟩
        | .LtE => some ⟨_, st_cmp .le (by decide) (by decide) ia.2 ib.2⟩
        | .Gt => some ⟨_, st_cmp .gt (by decide) (by decide) ia.2 ib.2⟩
        | .GtE => some ⟨_, st_cmp .ge (by decide) (by decide) ia.2 ib.2⟩
        | .In => some ⟨_, st_cmp .inn (by decide) (by decide) ia.2 ib.2⟩
        | .NotIn => some ⟨_, st_cmp .notin (by decide) (by decide) ia.2 ib.2⟩
        | _ => none)
      | [op, op'], [b, c] => (cmOf op).bind fun o => (cmOf op').bind fun o' => (trE n T a).bind fun ia => (trE n T b).bind fun ib => (trE n T c).bind fun ic => some ⟨_, st_chain2 o o' ia.2 ib.2 ic.2⟩
      | _, _ => none)
    | e => (trE n T e).bind fun ia => if h : plainT e = true then some ⟨ia.1, st_val h ia.2⟩ else none
def trW : Nat → (T : Tb) → (e : Expr) → Option (XWt T e)
  | 0, _, _ => none
  | n + 1, T, e => match e with
    | .BoolOp .And [a] pos => (trT n T a).map fun ia => ⟨_, sw_and1 ia.2⟩
    | .BoolOp .Or [a] pos => (trT n T a).map fun ia => ⟨_, sw_or1 ia.2⟩
    | .BoolOp .And (a :: b :: rest) pos => (trT n T a).bind fun ia => (trW n T (.BoolOp .And (b :: rest) pos)).bind fun ib => some ⟨_, sw_and ia.2 ib.2⟩
    | .BoolOp .Or (a :: b :: rest) pos => (trT n T a).bind fun ia => (trW n T (.BoolOp .Or (b :: rest) pos)).bind fun ib => some ⟨_, sw_or ia.2 ib.2⟩
    | _ => none
def trAs : Nat → (T : Tb) → (es : List Expr) → Option (XA T es)
  | 0, _, _ => none
  | n + 1, T, es => match es with
    | [] => some ⟨[], sa_nil⟩
    | e :: es => (trE n T e).bind fun ie => (trAs n T es).bind fun is => some ⟨ie.1 :: is.1, sa_cons ie.2 is.2⟩
def trO : Nat → (T : Tb) → (e : Option Expr) → Option (XO T e)
  | 0, _, _ => none
  | n + 1, T, e => match e with
    | none => some ⟨none, so_none⟩
    | some a => (trE n T a).map fun ia => ⟨some ia.1, so_some ia.2⟩
def trC : Nat → (T : Tb) → (es : List Expr) → Option (XC T es)
  | 0, _, _ => none
  | n + 1, T, es => match es with
    | [] => some ⟨none, sc_none⟩
    | [c] => (trT n T c).map fun ic => ⟨some ic.1, sc_one ic.2⟩
    | _ => none
def trI : Nat → (T : Tb) → (tg iter : Expr) → Option (XI T tg iter)
  | 0, _, _, _ => none
  | n + 1, T, tg, iter =>
    match iter with
    | .Call (.Name x p) es [] pos => (if hx : x = "range" ∧ gloB T.scope "range" = true ∧ ("range" : Str) ∈ T.blts then (match es with
      | [a] => (trAs n T [a]).bind fun is => (match is with
        | ⟨[ia], hs⟩ => some ⟨(.rng1, [ia]), by obtain ⟨rfl, h1, h2⟩ := hx; exact si_rng1 h1 h2 hs⟩
        | _ => none)
      | [a, b] => (trAs n T [a, b]).bind fun is => (match is with
        | ⟨[ia, ib], hs⟩ => some ⟨(.rng2, [ia, ib]), by obtain ⟨rfl, h1, h2⟩ := hx; exact si_rng2 h1 h2 hs⟩
        | _ => none)
      | [a, b, c] => (trAs n T [a, b, c]).bind fun is => (match is with
        | ⟨[ia, ib, ic], hs⟩ => some ⟨(.rng3, [ia, ib, ic]), by obtain ⟨rfl, h1, h2⟩ := hx; exact si_rng3 h1 h2 hs⟩
        | _ => none)
      | _ => none) else if hx : x = "reversed" ∧ gloB T.scope "reversed" = true ∧ ("reversed" : Str) ∈ T.blts then (match es with
      | [a] => (trE n T a).map fun ia => ⟨(.rev, [ia.1]), by obtain ⟨rfl, h1, h2⟩ := hx; exact si_rev h1 h2 ia.2⟩
      | _ => none)
      else if hx : x = "enumerate" ∧ gloB T.scope "enumerate" = true ∧ ("enumerate" : Str) ∈ T.blts then (match es, tg with
      | [a], .Tuple ts kk p2 => (trE n T a).map fun ia => ⟨(.enm, [ia.1]), by obtain ⟨rfl, h1, h2⟩ := hx; exact si_enm h1 h2 ia.2⟩
      | _, _ => none)
      else if hx : x = "zip" ∧ gloB T.scope "zip" = true ∧ ("zip" : Str) ∈ T.blts then (match es, tg with
      | [a, b], .Tuple ts kk p2 => (trAs n T [a, b]).bind fun is => (match is with
        | ⟨[ia, ib], hs⟩ => some ⟨(.zip, [ia, ib]), by obtain ⟨rfl, h1, h2⟩ := hx; exact si_zip h1 h2 hs⟩
        | _ => none)
      | _, _ => none)
      else (trE n T (.Call (.Name x p) es [] pos)).map fun ia => ⟨(.seq, [ia.1]), si_seq ia.2⟩)
    | it => (trE n T it).map fun ia => ⟨(.seq, [ia.1]), si_seq ia.2⟩
end
/-! ### statements -/
def XS (T : Tb) (fr : Bool) (st : Stmt) : Type := { s : S // SS T fr st s }
def XSs (T : Tb) (fr : Bool) (st : List Stmt) : Type := { s : List S // SSs T fr st s }
def notTup : Expr → Bool
  | .Tuple _ _ _ => false
  | _ => true
theorem notTup_sw {a : Expr} (h : notTup a = true) {ts : List Expr} {k : Nat} {p : Pos} (env : Env) : swappedStores [.Tuple ts k p] a env = pure none := by
  cases a <;> first | rfl | cases h
def swC (T : Tb) (x : Str) (p : Pos) (scope : Scope) (p2 : Pos) : Bool := (p.line == p2.line) && !(scope.names.any fun (n, k) => n == x && (k == .local || k == .cell))
/-- the block of a sum that grows row by row -/
def trWv (n : Nat) (T : Tb) (fr : Bool) (sts : List Stmt) : Option (XSs T fr sts) := match hw : T.wv with
  | none => none
  | some q => (match sts with
    | [.Assign [.Name x p1] (.Call (.Name cw p2) [a, b] [] p3) p4, .For (.Name r p5) (.Subscript (.Name y p16) (.Constant (.int k) kn p17) p18) [.Expr (.Call (.Attribute (.Name x2 p6) tk p7) [.Name r2 p8] [] p9) p10] [] p11, .Return (some (.Call (.Attribute (.Name x3 p12) en p13) [] [] p14)) p15] =>
      (if hx : (cw = "Weaving" ∧ tk = "take" ∧ en = "ended") ∧ x2 = x ∧ r2 = r ∧ x3 = x then (trE n T a).bind fun ia => (trE n T b).bind fun ib =>
        (if h : (T.cm = true ∧ T.N[slotOf T.N x]? = some x ∧ locB T x = true ∧ visB T.scope x = true ∧ nameB x = true) ∧ (T.N[slotOf T.N r]? = some r ∧ locB T r = true ∧ visB T.scope r = true ∧ nameB r = true) ∧ (T.N[slotOf T.N y]? = some y ∧ visB T.scope y = true ∧ nameB y = true) ∧ (slotOf T.N x ≠ slotOf T.N r ∧ slotOf T.N x ≠ slotOf T.N y) ∧ (p7.endLine == p9.line) = true ∧ (p13.endLine == p14.line) = true ∧ gloB T.scope "Weaving" = true then
          some ⟨[.weave (slotOf T.N x) (slotOf T.N r) (slotOf T.N y) k ia.1 ib.1 q.1 q.2.1 q.2.2], by
            obtain ⟨⟨rfl, rfl, rfl⟩, rfl, rfl, rfl⟩ := hx
            obtain ⟨⟨a1, a2, a3, a4, a5⟩, ⟨b1, b2, b3, b4⟩, ⟨c1, c2, c3⟩, ⟨d1, d2⟩, e1, e2, e3⟩ := h
            exact sss_weave a1 a2 a3 a4 a5 b1 b2 b3 b4 c1 c2 c3 d1 d2 e1 e2 hw e3 ia.2 ib.2⟩
        else none) else none)
    | _ => none)
/-- the body of a loop over a list that is kept -/
def trSK : (T : Tb) → (fr : Bool) → (i : Nat) → (st : List Stmt) → Option { ss : List S // SKs T fr i st ss }
  | _, _, _, [] => some ⟨[], sk_nil⟩
  | T, fr, i, .Assign [.Name x p] a pos :: r => (trE 400 T a).bind fun ia => (trSK T fr i r).bind fun ir => if h : slotOf T.N x ≠ i ∧ T.N[slotOf T.N x]? = some x ∧ locB T x = true ∧ notComp a = true then some ⟨.asg (.nm (slotOf T.N x)) ia.1 :: ir.1, sk_cons (sk_set h.1 h.2.1 h.2.2.1 ia.2 h.2.2.2) ir.2⟩ else none
  | T, fr, i, .If c [.Return (some (.Constant (.bool b) j p)) p2] [] pos :: r => (trT 400 T c).bind fun ic => (trSK T fr i r).bind fun ir => some ⟨.ife ic.1 [.ret fr (.cst (.bool b))] [] :: ir.1, sk_cons (sk_ifr ic.2) ir.2⟩
  | _, _, _, _ => none
def keptA (T : Tb) (fr : Bool) (x : Str) (p pos : Pos) : (a : Expr) → Option (XS T fr (.Assign [.Name x p] a pos))
  | .Call (.Name y p2) [.Name z p3] [] p4 => if T.kp = true ∧ y = "list" then (trE 400 T (.Call (.Name y p2) [.Name z p3] [] p4)).bind fun ia => if h : T.N[slotOf T.N x]? = some x ∧ locB T x = true then some ⟨.asf (slotOf T.N x) ia.1, ss_setK h.1 h.2 ia.2 rfl⟩ else none else none
  | _ => none
def keptT (T : Tb) (fr : Bool) (a : List Stmt) (pos : Pos) : (tg iter : Expr) → Option (XS T fr (.For tg iter a [] pos))
  | .Name y p, .Name x p2 => if T.kp = true then (trSK T fr (slotOf T.N x) a).bind fun ia => if h : T.cm = true ∧ slotOf T.N y ≠ slotOf T.N x ∧ (T.N[slotOf T.N x]? = some x ∧ visB T.scope x = true ∧ nameB x = true) ∧ T.N[slotOf T.N y]? = some y ∧ locB T y = true then
      some ⟨.lpk (slotOf T.N x) (slotOf T.N y) ia.1, ss_lpk h.1 h.2.1 h.2.2.1.1 h.2.2.1.2.1 h.2.2.1.2.2 h.2.2.2.1 h.2.2.2.2 ia.2⟩ else none else none
  | _, _ => none
/-- except .. as y: z = x(y), x a def of its own kind -/
def hotT (T : Tb) (fr : Bool) (cn y : Str) (np pos' pos : Pos) {body : List Stmt} (b : { b : TB // STB T fr body b }) : (st0 : Stmt) → (sts : List Stmt) → Option (XS T fr (.Try body [.ExceptHandler (some (.Name cn np)) (some y) (st0 :: sts) pos'] [] [] pos))
  | .Assign [.Name z p3] (.Call (.Name x p) [.Name y2 p2] [] p4) p5, [] => (match hl : T.fnh.lookup x with
    | none => none
    | some (n, I) => if h : y2 = y ∧ (T.cm = true ∧ T.tp = true ∧ cn ∈ T.cls ∧ gloB T.scope cn = true ∧ nameB cn = true) ∧ (T.N[slotOf T.N y]? = some y ∧ T.scope.names.lookup y = some .local ∧ nameB y = true) ∧ (gloB T.scope x = true ∧ nameB x = true ∧ I.ps.length = 1) ∧ T.N[slotOf T.N z]? = some z ∧ locB T z = true then
        some ⟨.tryx b.1 cn (some (slotOf T.N y)) [.asg (.nm (slotOf T.N z)) (.call n I.fr [.var (slotOf T.N y)] [])], by
          obtain ⟨rfl, ⟨h1, h2, h3, h4, h5⟩, ⟨h6, h7, h8⟩, ⟨h9, h10, h11⟩, h12, h13⟩ := h
          exact ss_tryK h1 h2 h3 h4 h5 h6 h7 h8 hl h9 h10 h11 h12 h13 b.2⟩
      else none)
  | _, _ => none
mutual
def trS : Nat → (T : Tb) → (fr : Bool) → (st : Stmt) → Option (XS T fr st)
  | 0, _, _, _ => none
  | n + 1, T, fr, st => match st with
    | .Pass pos => some ⟨_, ss_pass⟩
    | .Break pos => some ⟨_, ss_brk⟩
    | .Continue pos => some ⟨_, ss_cnt⟩
    | .Raise e c pos => (match e, c with
      | some (.Call (.Name x p) [.Constant (.str m) j p2] [] p3), none => if h : T.cm = true ∧ T.tp = true ∧ x ∈ T.exs ∧ gloB T.scope x = true ∧ nameB x = true then some ⟨.rs x, ss_raise h.1 h.2.1 h.2.2.1 h.2.2.2.1 h.2.2.2.2⟩ else some ⟨_, ss_never⟩
      | _, _ => some ⟨_, ss_never⟩)
    | .Try body hds orelse fin pos => (match hds, orelse, fin with
      | [.ExceptHandler (some (.Name cn np)) (some y) (st0 :: sts) pos'], [], [] => (trTB n T fr body).bind fun b => if (hotT T fr cn y np pos' pos b st0 sts).isSome = true then hotT T fr cn y np pos' pos b st0 sts else (trSs n T.suite fr (st0 :: sts)).bind fun hd =>
          if h : T.cm = true ∧ T.tp = true ∧ cn ∈ T.cls ∧ gloB T.scope cn = true ∧ nameB cn = true ∧ T.N[slotOf T.N y]? = some y ∧ T.scope.names.lookup y = some .local then
            some ⟨.tryx b.1 cn (some (slotOf T.N y)) hd.1, ss_try h.1 h.2.1 h.2.2.1 h.2.2.2.1 h.2.2.2.2.1 h.2.2.2.2.2.1 h.2.2.2.2.2.2 b.2 hd.2⟩ else none
      | [.ExceptHandler (some (.Name cn np)) none (st0 :: sts) pos'], [], [] => (trTB n T fr body).bind fun b => (trSs n T.suite fr (st0 :: sts)).bind fun hd =>
          if h : T.cm = true ∧ T.tp = true ∧ cn ∈ T.cls ∧ gloB T.scope cn = true ∧ nameB cn = true then
            some ⟨.tryx b.1 cn none hd.1, ss_tryN h.1 h.2.1 h.2.2.1 h.2.2.2.1 h.2.2.2.2 b.2 hd.2⟩ else none
      | _, _, _ => none)
    | .Return v pos => (match v with
      | none => some ⟨_, ss_retN⟩
      | some a => (match fr, a with
        | true, .Name x p => (if h : T.N[slotOf T.N x]? = some x ∧ visB T.scope x = true ∧ nameB x = true then some ⟨_, ss_retv h.1 h.2.1 h.2.2⟩ else none)
        | fr, a => (trE n T a).bind fun ia => if h : fr = false ∨ isVarE ia.1 = false then some ⟨_, ss_ret ia.2 h⟩ else none))
    | .If c a b pos => (trT n T c).bind fun ic => (trSs n T fr a).bind fun ia => (trSs n T fr b).bind fun ib => some ⟨_, ss_if ic.2 ia.2 ib.2⟩
    | .While c a orelse pos => (match orelse with
      | [] => (trT n T c).bind fun ic => (trSs n T fr a).bind fun ia => some ⟨_, ss_while ic.2 ia.2⟩
      | _ => none)
    | .For tg iter a orelse pos => (match orelse with
      | [] => if (keptT T fr a pos tg iter).isSome = true then keptT T fr a pos tg iter else (trI n T tg iter).bind fun s => (trG T tg).bind fun g => (trSs n T fr a).bind fun ia => if h : T.cm = true then some ⟨.loop g.1 s.1.1 s.1.2 ia.1, ss_for h s.2 g.2 ia.2⟩ else none
      | _ => none)
    | .Expr e pos => (match e with
      | .Call (.Attribute (.Name x p) at' apos) [a] [] p2 => (if ha : at' = "append" then (trE n T a).bind fun ia => if h : T.N[slotOf T.N x]? = some x ∧ visB T.scope x = true ∧ nameB x = true ∧ (apos.endLine == p2.line) = true then
          some ⟨.app (slotOf T.N x) ia.1, by subst ha; exact ss_app h.1 h.2.1 h.2.2.1 ia.2 h.2.2.2⟩ else none
          else if ha : at' = "remove" then (trE n T a).bind fun ia => if h : T.N[slotOf T.N x]? = some x ∧ visB T.scope x = true ∧ nameB x = true ∧ (apos.endLine == p2.line) = true then
          some ⟨.rem (slotOf T.N x) ia.1, by subst ha; exact ss_rem h.1 h.2.1 h.2.2.1 ia.2 h.2.2.2⟩ else none
          else if ha : at' = "extend" then (trE n T a).bind fun ia => if h : T.N[slotOf T.N x]? = some x ∧ visB T.scope x = true ∧ nameB x = true ∧ (apos.endLine == p2.line) = true then
          some ⟨.ext (slotOf T.N x) ia.1, by subst ha; exact ss_ext h.1 h.2.1 h.2.2.1 ia.2 h.2.2.2⟩ else none
          else none)
      | .Call (.Attribute (.Name x p) at' apos) [k, a] [] p2 => (if ha : at' = "insert" then (trE n T k).bind fun ik => (trE n T a).bind fun ia => if h : T.N[slotOf T.N x]? = some x ∧ visB T.scope x = true ∧ nameB x = true ∧ (apos.endLine == p2.line) = true then
          some ⟨.ins (slotOf T.N x) ik.1 ia.1, by subst ha; exact ss_ins h.1 h.2.1 h.2.2.1 ik.2 ia.2 h.2.2.2⟩ else none
          else none)
      | .Call (.Attribute (.Name x p) at' apos) [] [] p2 => (if ha : at' = "clear" then (if h : T.N[slotOf T.N x]? = some x ∧ visB T.scope x = true ∧ nameB x = true ∧ (apos.endLine == p2.line) = true then
          some ⟨.clr (slotOf T.N x), by subst ha; exact ss_clr h.1 h.2.1 h.2.2.1 h.2.2.2⟩ else none)
          else none)
      | .Call (.Name x p) (.Name y p2 :: es) [] p3 => (match hf : T.fnr.lookup x with
        | some (id, I) => (trAs n T es).bind fun is => if h : T.cm = true ∧ gloB T.scope x = true ∧ nameB x = true ∧ T.N[slotOf T.N y]? = some y ∧ visB T.scope y = true ∧ nameB y = true ∧ is.1.length + 1 = I.ps.length then
            some ⟨.cref (slotOf T.N y) id is.1, ss_cref h.1 h.2.1 h.2.2.1 hf h.2.2.2.1 h.2.2.2.2.1 h.2.2.2.2.2.1 is.2 h.2.2.2.2.2.2⟩ else none
        | none => (trE n T (.Call (.Name x p) (.Name y p2 :: es) [] p3)).bind fun ia => some ⟨_, ss_drop ia.2 fun l env => notComp_sw rfl _ _ _⟩)
      | e => (trE n T e).bind fun ia => if h : notComp e = true then some ⟨_, ss_drop ia.2 fun l env => notComp_sw h _ _ _⟩ else none)
    | .Assign ts a pos => (match ts with
      | [.Name x p] => if (keptA T fr x p pos a).isSome = true then keptA T fr x p pos a else (match a with
        | .Dict [] [] p2 => if h : T.N[slotOf T.N x]? = some x ∧ locB T x = true then (if T.tn.contains x = true then some ⟨.tnew (slotOf T.N x), ss_tnew h.1 h.2⟩ else some ⟨.dnew (slotOf T.N x), ss_dnew h.1 h.2⟩) else none
        | .Dict [some k] [e] p2 => (trE n T k).bind fun ik => (trE n T e).bind fun ie => if h : T.N[slotOf T.N x]? = some x ∧ locB T x = true then some ⟨.dnw1 (slotOf T.N x) ik.1 ie.1, ss_dnw1 h.1 h.2 ik.2 ie.2⟩ else none
        | .ListComp elt gens scope p2 => if hcell : T.scope.names.lookup x = some .cell then (trE n T (.ListComp elt gens scope p2)).bind fun ia => (if h : T.N[slotOf T.N x]? = some x ∧ locB T x = true then some ⟨_, ss_setC h.1 h.2 hcell ia.2⟩ else none) else (match gens with
          | [⟨tg, iter, ifs, asy⟩] => (if ha : asy = 0 then (trI n T tg iter).bind fun s => (trG (T.inner scope) tg).bind fun g => (trC n (T.inner scope) ifs).bind fun c => (trE n (T.inner scope) elt).bind fun ie =>
              (if h : ((T.N[slotOf T.N x]? = some x ∧ T.cm = true) ∧ T.scope.names.lookup x = some .local) ∧ swC T x p scope p2 = true ∧ blkC T.N T.scope scope (ownOf T.N tg) = true ∧ (tgSlots g.1).all (fun j => ((ownOf T.N tg).map (·.2)).contains j) = true then
                if hfl : T.fl = true then some ⟨.asf (slotOf T.N x) (.comp ((ownOf T.N tg).map (·.2)) g.1 s.1.1 s.1.2 c.1 ie.1), by
                  subst ha
                  have hs := h.2.1
                  unfold swC at hs
                  rw [Bool.and_eq_true, Bool.not_eq_true'] at hs
                  exact ss_setLf h.1.1.2 h.1.1.1 h.1.2 (fun env hk hy => sw_true hk hy hs.1 hs.2) s.2 h.2.2.1 (fun j hj => by simpa using (List.all_eq_true.mp h.2.2.2 j hj)) g.2 c.2 ie.2⟩ else
                some ⟨.asg (.nm (slotOf T.N x)) (.comp ((ownOf T.N tg).map (·.2)) g.1 s.1.1 s.1.2 c.1 ie.1), by
                  subst ha
                  have hs := h.2.1
                  unfold swC at hs
                  rw [Bool.and_eq_true, Bool.not_eq_true'] at hs
                  exact ss_setLc h.1.1.2 h.1.1.1 h.1.2 (fun env hk hy => sw_true hk hy hs.1 hs.2) s.2 h.2.2.1 (fun j hj => by simpa using (List.all_eq_true.mp h.2.2.2 j hj)) g.2 c.2 ie.2⟩
              else none) else none)
          | _ => none)
        | .Call (.Name f fp) (e0 :: .Name y p2 :: es) [] p3 => (match hf : T.fnv.lookup f with
          | some (id, I) => (trE n T e0).bind fun i0 => (trAs n T es).bind fun is => if h : ((T.cm = true ∧ gloB T.scope f = true ∧ nameB f = true) ∧ T.N[slotOf T.N y]? = some y ∧ visB T.scope y = true ∧ nameB y = true) ∧ is.1.length + 2 = I.ps.length ∧ T.N[slotOf T.N x]? = some x ∧ locB T x = true then
              some ⟨.crfv (slotOf T.N x) (slotOf T.N y) id i0.1 is.1, ss_crfv h.1.1.1 h.1.1.2.1 h.1.1.2.2 hf h.1.2.1 h.1.2.2.1 h.1.2.2.2 i0.2 is.2 h.2.1 h.2.2.1 h.2.2.2⟩ else none
          | none => (trE n T (.Call (.Name f fp) (e0 :: .Name y p2 :: es) [] p3)).bind fun ia => if h : T.N[slotOf T.N x]? = some x ∧ locB T x = true then some ⟨_, ss_set h.1 h.2 ia.2 rfl⟩ else none)
        | .Name y p2 => if h : T.mv = true ∧ (T.N[slotOf T.N x]? = some x ∧ locB T x = true) ∧ T.N[slotOf T.N y]? = some y ∧ visB T.scope y = true ∧ nameB y = true then some ⟨.mov (slotOf T.N x) (slotOf T.N y), ss_mov h.2.1.1 h.2.1.2 h.2.2.1 h.2.2.2.1 h.2.2.2.2⟩
          else (trE n T (.Name y p2)).bind fun ia => if h : T.N[slotOf T.N x]? = some x ∧ locB T x = true then some ⟨_, ss_set h.1 h.2 ia.2 rfl⟩ else none
        | a => (trE n T a).bind fun ia => if h : T.N[slotOf T.N x]? = some x ∧ locB T x = true ∧ notComp a = true then some ⟨_, ss_set h.1 h.2.1 ia.2 h.2.2⟩ else none)
      | [.Tuple ts k p] => (trGs T ts).bind fun g => (trE n T a).bind fun ia => if h : notTup a = true ∧ T.cm = true then some ⟨_, ss_setTup h.2 g.2 ia.2 fun env => notTup_sw h.1 env⟩ else none
      | [.Subscript (.Name x p) b p2] => (trE n T b).bind fun ib => (trE n T a).bind fun ia => if h : T.N[slotOf T.N x]? = some x ∧ visB T.scope x = true ∧ nameB x = true ∧ notComp a = true then (if T.dn.contains x = true then some ⟨_, ss_dput h.1 h.2.1 h.2.2.1 ib.2 ia.2 h.2.2.2⟩ else if ht : T.tn.contains x = true then some ⟨_, ss_tput (tn_ne ht) h.1 h.2.1 h.2.2.1 ib.2 ia.2 h.2.2.2⟩ else some ⟨_, ss_sub h.1 h.2.1 h.2.2.1 ib.2 ia.2 h.2.2.2⟩) else none
      | _ => none)
    | _ => none
def trTB : Nat → (T : Tb) → (fr : Bool) → (st : List Stmt) → Option { b : TB // STB T fr st b }
  | 0, _, _, _ => none
  | n + 1, T, fr, sts => match sts with
    | [.Assign [.Name y p3] (.Call (.Name x p) (e :: es) [] pos) pos'] => (match hf : T.fns.lookup x with
      | some (id, I) => (trAs n T (e :: es)).bind fun is => (match is with
        | ⟨[], _⟩ => none
        | ⟨ie :: is, hs⟩ => if h : ((gloB T.scope x = true ∧ nameB x = true ∧ (ie :: is).length + (I.ds.drop (I.ds.length - (I.ps.length - (ie :: is).length))).length = I.ps.length) ∧ T.cm = true) ∧ T.N[slotOf T.N y]? = some y ∧ locB T y = true then
            some ⟨_, stb_asg h.1.2 h.1.1.1 h.1.1.2.1 hf hs (Nat.sub_le _ _) h.1.1.2.2 h.2.1 h.2.2⟩ else none)
      | none => none)
    | [.Expr (.Call (.Name x p) (e :: es) [] pos) pos'] => (match hf : T.fns.lookup x with
      | some (id, I) => (trAs n T (e :: es)).bind fun is => (match is with
        | ⟨[], _⟩ => none
        | ⟨ie :: is, hs⟩ => if h : (gloB T.scope x = true ∧ nameB x = true ∧ (ie :: is).length + (I.ds.drop (I.ds.length - (I.ps.length - (ie :: is).length))).length = I.ps.length) ∧ T.cm = true then
            some ⟨_, stb_drop h.2 h.1.1 h.1.2.1 hf hs (Nat.sub_le _ _) h.1.2.2⟩ else none)
      | none => none)
    | [.If c a b pos] => (trT n T c).bind fun ic => (trTB n T fr a).bind fun ia => (trTB n T fr b).bind fun ib => some ⟨_, stb_if ic.2 ia.2 ib.2⟩
    | _ => none
def trSs : Nat → (T : Tb) → (fr : Bool) → (st : List Stmt) → Option (XSs T fr st)
  | 0, _, _, _ => none
  | n + 1, T, fr, sts => match trWv n T fr sts with
    | some r => some r
    | none => (match sts with
      | [] => some ⟨[], sss_nil⟩
      | st :: sts => (trS n T fr st).bind fun s => (trSs n T fr sts).bind fun ss => some ⟨s.1 :: ss.1, sss_cons s.2 ss.2⟩)
end
/-- the body of a def that tells a value beside the dict that it is lent -/
def trR : Nat → (T : Tb) → (st : List Stmt) → Option (XR T st)
  | 0, _, _ => none
  | n + 1, T, sts => match sts with
    | [.Return (some a) pos] => (trE n T a).bind fun ia => some ⟨[], ia.1, sssR_ret ia.2⟩
    | st :: sts => (trS n T false st).bind fun s => (trR n T sts).bind fun r => some ⟨s.1 :: r.c, r.e, sssR_cons s.2 r.ok⟩
    | [] => none
end L2.Pu
namespace L2.Pu
open PySem PySem.Spec PyProof.Rows
/-! ### a whole program -/
structure DefT where
  x : Str
  id : Nat
  st : Stmt
  N : List Str
  ps : List Str
  ds : List PyData
  fr : Bool
  ln : Bool := false
  mv : Bool := false
  fl : Bool := false
  dn : List Str := []
  tn : List Str := []
  rf : Bool := false
  rv : Bool := false
  ht : Bool := false
  kp : Bool := false
/-- a def that is called in the suite of except alone -/
def DefT.hotC (d : DefT) : Bool := !d.ht || decide (d.ps ≠ [("script" : Str)])
/-- the class and its methods behind the top -/
structure WvF (K : PySem.W.Frag) (mg : Str → Option Value) (ms : Nat → Stmt) (C : Addr) (f : Nat → Addr) (fd : Nat → FuncData) : Prop where
  cl : WCls K mg C
  mkr : Mk K C (f 0)
  m1 : Meth K C "swing" (f 1)
  m2 : Meth K C "look" (f 2)
  m3 : Meth K C "where" (f 3)
  m4 : Meth K C "row_of_two" (f 4)
  m5 : Meth K C "take" (f 5)
  m6 : Meth K C "ended" (f 6)
  d0 : FunD K "__init__" "Weaving.__init__" (defArgs (ms 0)) (defBody (ms 0)) (defScope (ms 0)) [] [] (f 0) (fd 0)
  d1 : FunD K "swing" "Weaving.swing" (defArgs (ms 1)) (defBody (ms 1)) (defScope (ms 1)) [] [] (f 1) (fd 1)
  d2 : FunD K "look" "Weaving.look" (defArgs (ms 2)) (defBody (ms 2)) (defScope (ms 2)) [] [] (f 2) (fd 2)
  d3 : FunD K "where" "Weaving.where" (defArgs (ms 3)) (defBody (ms 3)) (defScope (ms 3)) [] [] (f 3) (fd 3)
  d4 : FunD K "row_of_two" "Weaving.row_of_two" (defArgs (ms 4)) (defBody (ms 4)) (defScope (ms 4)) [] [] (f 4) (fd 4)
  d5 : FunD K "take" "Weaving.take" (defArgs (ms 5)) (defBody (ms 5)) (defScope (ms 5)) [] [] (f 5) (fd 5)
  d6 : FunD K "ended" "Weaving.ended" (defArgs (ms 6)) (defBody (ms 6)) (defScope (ms 6)) [] [] (f 6) (fd 6)
  b0 : Binds K (fd 0) ["self", "wires", "looks"] []
  b1 : Binds K (fd 1) ["self", "wire"] []
  b2 : Binds K (fd 2) ["self", "wire"] []
  b3 : Binds K (fd 3) ["self", "mark", "row"] []
  b4 : Binds K (fd 4) ["self", "row"] []
  b5 : Binds K (fd 5) ["self", "row"] []
  b6 : Binds K (fd 6) ["self"] []
/-- what the text of its methods must show -/
def WvP (ms : Nat → Stmt) : Prop := ∀ (pr : Program) (w : World) (K : PySem.W.Frag) (mg : Str → Option Value) (base : Heap) (lvl : Nat) (C : Addr) (f : Nat → Addr) (fd : Nat → FuncData) (sg ad ts : PF) (f1 f2 f3 : Addr) (fd1 fd2 fd3 : FuncData), WvF K mg ms C f fd →
  FnAt pr w K mg base lvl "signed" ["phase", "one", "two"] sg f1 fd1 → FnAt pr w K mg base lvl "added" ["turn", "turns", "bitset", "e"] ad f2 fd2 → FnAt pr w K mg base lvl "ties_of" ["sets"] ts f3 fd3 → WvOk pr w K mg base lvl sg ad ts
/-- the class Weaving: its place, and the defs that it calls -/
structure WvT where
  ms : Nat → Stmt
  ids : Nat × Nat × Nat
structure Prg where
  defs : List DefT
  glb : List (Str × PyData)
  blts : List Str
  cls : List Str := []
  exs : List Str := []
  wv : Option WvT := none
def Prg.fns (P : Prg) : List (Str × (Nat × FnI)) := (P.defs.filter fun d => (!d.rf && !d.ht) && !d.rv).map fun d => (d.x, (d.id, ⟨d.ps, d.ds, d.fr⟩))
/-- the defs that change a dict that they are lent -/
def Prg.fnr (P : Prg) : List (Str × (Nat × FnI)) := (P.defs.filter fun d => (d.rf && !d.ht) && !d.rv).map fun d => (d.x, (d.id, ⟨d.ps, d.ds, d.fr⟩))
/-- the defs that change a dict that they are lent and tell a value -/
def Prg.fnv (P : Prg) : List (Str × (Nat × FnI)) := (P.defs.filter fun d => d.rv).map fun d => (d.x, (d.id, ⟨d.ps, d.ds, d.fr⟩))
/-- the defs that are called in the suite of except -/
def Prg.fnh (P : Prg) : List (Str × (Nat × FnI)) := (P.defs.filter fun d => (!d.rf && d.ht) && !d.rv).map fun d => (d.x, (d.id, ⟨d.ps, d.ds, d.fr⟩))
def Prg.tb (P : Prg) (d : DefT) : Tb := { N := d.N, scope := defScope d.st, fnb := fun _ => true, fns := P.fns, glb := P.glb, blts := P.blts, cls := P.cls, exs := P.exs, cm := !d.ht, tp := !d.ht, ln := d.ln, mv := d.mv, fl := d.fl, dn := d.dn, tn := d.tn, fnr := P.fnr, fnv := P.fnv, wv := P.wv.map (·.ids), ht := d.ht, fnh := P.fnh, kp := d.kp }
def Prg.code (P : Prg) (d : DefT) : Option (XSs (P.tb d) d.fr (defBody d.st)) := trSs 400 (P.tb d) d.fr (defBody d.st)
def Prg.codeV (P : Prg) (d : DefT) : Option (XR (P.tb d) (defBody d.st)) := trR 400 (P.tb d) (defBody d.st)
def Prg.tab (P : Prg) (i : Nat) : Option Df := (P.defs.find? fun d => d.id == i).bind fun d => if d.rv = true then (P.codeV d).map fun c => ⟨d.ps.length, d.N.length, d.fr, [.lenv 1 c.c c.e]⟩ else (P.code d).map fun c => ⟨d.ps.length, d.N.length, d.fr, if d.rf = true then [.lent c.1] else c.1⟩
def fnScopeC (N ps : List Str) (sc : Scope) : Bool := (match sc.kind with | .function => true | _ => false) && !sc.isCoroutine && !sc.isGenerator && decide N.Nodup && decide (N.take ps.length = ps) &&
  (ps.all fun x => match sc.names.lookup x with | some .local => true | some .cell => true | _ => false) && (sc.names.all fun y => match y.2 with | .free => false | _ => true)
theorem fnScopeC_ok {N ps : List Str} {sc : Scope} (h : fnScopeC N ps sc = true) : FnScope N ps sc := by
  unfold fnScopeC at h
  simp only [Bool.and_eq_true, Bool.not_eq_true', decide_eq_true_eq, List.all_eq_true] at h
  obtain ⟨⟨⟨⟨⟨⟨h1, h2⟩, h3⟩, h4⟩, h5⟩, h6⟩, h7⟩ := h
  refine ⟨?_, h2, h3, h4, h5, fun x hx => ?_, fun y hy e => ?_⟩
  · split at h1
    · assumption
    · cases h1
  · have q := h6 x hx
    split at q
    · exact .inl (by assumption)
    · exact .inr (by assumption)
    · cases q
  · have q := h7 y hy
    rw [e] at q
    cases q
def fnC (o : Option (Nat × FnI)) (id : Nat) (ps : List Str) : Bool := match o with
  | some (n, I) => n == id && decide (I.ps = ps) && I.ds.isEmpty && !I.fr
  | none => false
theorem fnC_ok {o : Option (Nat × FnI)} {id : Nat} {ps : List Str} (h : fnC o id ps = true) : o = some (id, ⟨ps, [], false⟩) := by
  unfold fnC at h
  split at h
  · rename_i n I
    simp only [Bool.and_eq_true, decide_eq_true_eq, beq_iff_eq, Bool.not_eq_true', List.isEmpty_iff] at h
    obtain ⟨⟨⟨rfl, h1⟩, h2⟩, h3⟩ := h
    obtain ⟨a, b, c⟩ := I
    simp only at h1 h2 h3
    subst h1 h2 h3
    rfl
  · cases h
/-- the defs that the class calls stand there -/
def Prg.wvC (P : Prg) : Bool := match P.wv with
  | none => true
  | some q => fnC (P.fns.lookup ("signed" : Str)) q.ids.1 ["phase", "one", "two"] && fnC (P.fns.lookup ("added" : Str)) q.ids.2.1 ["turn", "turns", "bitset", "e"] && fnC (P.fns.lookup ("ties_of" : Str)) q.ids.2.2 ["sets"]
def Prg.good0 (P : Prg) : Bool := P.wvC && decide (P.defs.map (·.id)).Nodup && P.defs.all fun d => fnScopeC d.N d.ps (defScope d.st) && (if d.rv = true then (P.codeV d).isSome && !d.ht else (P.code d).isSome)
def Prg.good (P : Prg) : Bool := P.good0 && P.defs.all DefT.hotC
theorem Prg.g0 {P : Prg} (g : P.good = true) : P.good0 = true := by
  unfold Prg.good at g
  rw [Bool.and_eq_true] at g
  exact g.1
theorem find_id : ∀ {l : List DefT} {d : DefT}, (l.map (·.id)).Nodup → d ∈ l → (l.find? fun e => e.id == d.id) = some d
  | [], _, _, h => by cases h
  | e :: l, d, nd, h => by
    rw [List.map_cons, List.nodup_cons] at nd
    rcases List.mem_cons.mp h with rfl | h
    · rw [List.find?_cons]; simp
    · have ne : (e.id == d.id) = false := by
        rw [beq_eq_false_iff_ne]
        intro z
        exact nd.1 (List.mem_map.mpr ⟨d, h, z.symm⟩)
      rw [List.find?_cons, ne]
      exact find_id nd.2 h
theorem Prg.tab_sc {P : Prg} (g : P.good = true) {d : DefT} (hd : d ∈ P.defs) : FnScope d.N d.ps (defScope d.st) := by
  have g := Prg.g0 g
  unfold Prg.good0 at g
  rw [Bool.and_eq_true, Bool.and_eq_true, List.all_eq_true] at g
  have q := g.2 d hd
  rw [Bool.and_eq_true] at q
  exact fnScopeC_ok q.1
theorem Prg.tab_of {P : Prg} (g : P.good = true) {d : DefT} (hd : d ∈ P.defs) (nv : d.rv = false) : ∃ c : XSs (P.tb d) d.fr (defBody d.st), P.tab d.id = some ⟨d.ps.length, d.N.length, d.fr, if d.rf = true then [.lent c.1] else c.1⟩ ∧ FnScope d.N d.ps (defScope d.st) := by
  have sc := Prg.tab_sc g hd
  have g := Prg.g0 g
  unfold Prg.good0 at g
  rw [Bool.and_eq_true, Bool.and_eq_true, List.all_eq_true] at g
  have q := g.2 d hd
  rw [Bool.and_eq_true, if_neg (by rw [nv]; decide)] at q
  obtain ⟨c, hc⟩ := Option.isSome_iff_exists.mp q.2
  refine ⟨c, ?_, sc⟩
  unfold Prg.tab
  rw [find_id (of_decide_eq_true g.1.2) hd]
  show (if d.rv = true then _ else (P.code d).map _) = _
  rw [if_neg (by rw [nv]; decide), hc]; rfl
theorem Prg.tab_ofV {P : Prg} (g : P.good = true) {d : DefT} (hd : d ∈ P.defs) (nv : d.rv = true) : ∃ c : XR (P.tb d) (defBody d.st), P.tab d.id = some ⟨d.ps.length, d.N.length, d.fr, [.lenv 1 c.c c.e]⟩ ∧ d.ht = false := by
  have g := Prg.g0 g
  unfold Prg.good0 at g
  rw [Bool.and_eq_true, Bool.and_eq_true, List.all_eq_true] at g
  have q := g.2 d hd
  rw [Bool.and_eq_true, if_pos nv, Bool.and_eq_true] at q
  obtain ⟨c, hc⟩ := Option.isSome_iff_exists.mp q.2.1
  refine ⟨c, ?_, by simpa using q.2.2⟩
  unfold Prg.tab
  rw [find_id (of_decide_eq_true g.1.2) hd]
  show (if d.rv = true then (P.codeV d).map _ else _) = _
  rw [if_pos nv, hc]; rfl
/-- a def as it stands behind the top -/
structure DefA (K : PySem.W.Frag) (mg : Str → Option Value) (d : DefT) (f : Addr) (fd : FuncData) : Prop where
  mg : mg d.x = some (.ref f)
  fn : ∃ dvs, FunD K d.x d.x (defArgs d.st) (defBody d.st) (defScope d.st) dvs [] f fd
  bind : ∀ j, j ≤ d.ds.length → ∃ ds dvs, Binds K fd d.ps ds ∧ Vals dvs ds ∧ ∀ F H, Reps K F H (d.ds.drop j) dvs
/-- a constant of the top -/
structure GlbA (K : PySem.W.Frag) (mg : Str → Option Value) (x : Str) (p : PyData) : Prop where
  ex : ∃ u v, mg x = some u ∧ RelV v u ∧ ∀ F H, Rep K F H p v
theorem start_rep {K : KB} {F : Addr → Prop} {H : Hp} {ps : List PyData} {vs : List V} {N : List Str} (bs : Same K.B H) (ft : FT F H) (r : Reps K F H ps vs) : EnvRep K F H H (start N vs) (startP N.length ps) := by
  have hl := r.length
  have noown : ∀ (i : Nat) (p : PyData), (startP N.length ps)[i]? ≠ some (some (true, p)) := fun i p e => by
    unfold startP at e
    by_cases hi : i < ps.length
    · rw [List.getElem?_append_left (by simpa using hi), List.getElem?_map] at e
      cases q : ps[i]? with
      | none => rw [q] at e; cases e
      | some z => rw [q] at e; cases e
    · rw [List.getElem?_append_right (by simpa using hi), List.getElem?_replicate] at e
      split at e <;> cases e
  refine ⟨by unfold start startP; simp [hl], fun i p e => ?_, fun i p e => (noown i p e).elim, fun i j p q a e => (noown i p e).elim, Same.refl _, ft, bs⟩
  unfold startP at e
  by_cases hi : i < ps.length
  · rw [List.getElem?_append_left (by simpa using hi), List.getElem?_map] at e
    cases q : ps[i]? with
    | none => rw [q] at e; cases e
    | some z =>
      rw [q] at e
      cases e
      obtain ⟨v, ev, rv⟩ := r.get q
      refine ⟨v, ?_, Rep.sub (fun a y => ?_) _ _ rv⟩
      · unfold start
        rw [List.getElem?_append_left (by simpa [hl] using hi), List.getElem?_map, ev]; rfl
      · rcases y with y | ⟨j, q2, _, e1, _⟩
        · exact y
        · exact (noown j q2 e1).elim
  · rw [List.getElem?_append_right (by simpa using hi), List.getElem?_replicate] at e
    split at e <;> cases e
theorem lent_start {Φ : Nat → List PyData → R PyData} {w n : Nat} {c : List S} {ks : List (PyData × PyData)} {ps : List PyData} {l : List (Int × PyData)} (eu : unD ks = some l) :
    evS Φ w (.lent c) (startP n (.dict ks :: ps)) = lentE (evSs Φ w c ((startP n (.dict ks :: ps)).set 0 (some (true, .dict ((.none, .none) :: dL l))))) := by
  unfold evS
  have e0 : (startP n (.dict ks :: ps))[0]? = some (some (false, .dict ks)) := rfl
  rw [e0]
  show ((optR (unD ks)).bind fun l => lentE (evSs Φ w c ((startP n (.dict ks :: ps)).set 0 (some (true, .dict ((.none, .none) :: dL l)))))) = _
  rw [eu]; rfl
theorem lent_end {W : XW} {ρ : PEnv} {P : PyData → Prop} (h : RP W (endV (lentE (.ok (.nx ρ)))) P) : ∃ ks l, ρ[0]? = some (some (true, .dict ks)) ∧ isM ks = true ∧ unD ks = some l ∧ P (.dict (dL l)) := by
  have h : RP W (endV ((optR ρ[0]?).bind fun sl => (dslot sl).bind fun ks => guardR (isM ks) ((optR (unD ks)).bind fun l => .ok (.rt (.dict (dL l)))))) P := h
  cases e1 : ρ[0]? with
  | none => rw [e1] at h; exact h.elim
  | some sl =>
    rw [e1] at h
    cases sl with
    | none => exact h.elim
    | some bp =>
      obtain ⟨bb, q⟩ := bp
      cases bb with
      | false => exact h.elim
      | true =>
        cases q with
        | dict ks1 =>
          have h : RP W (endV (guardR (isM ks1) ((optR (unD ks1)).bind fun l => .ok (.rt (.dict (dL l)))))) P := h
          cases em : isM ks1 with
          | false => rw [em] at h; exact h.elim
          | true =>
            rw [em] at h
            cases eu1 : unD ks1 with
            | none => rw [eu1] at h; exact h.elim
            | some l1 =>
              rw [eu1] at h
              exact ⟨ks1, l1, rfl, em, eu1, h⟩
        | _ => exact h.elim
/-- the heap without one object -/
def hide (H : Hp) (a : Addr) : Hp := fun b => if b = a then none else H b
theorem start_lent {K : PySem.W.Frag} {F : Addr → Prop} {H : Hp} {ks ks0 : List (PyData × PyData)} {o : HO} {ps : List PyData} {vs : List V} {N : List Str} {a : Addr} (dk : dkO ks = some o) (ha : H a = some o) (ft : FT F H) (nF : ¬ F a) (r : Reps K (fun b => F b ∨ b = a) H ps vs) :
    EnvRep ⟨K, hide H a, fun b => b = a⟩ F (hide H a) H (start N (.ref a :: vs)) ((startP N.length (.dict ks0 :: ps)).set 0 (some (true, .dict ks))) := by
  have hl := r.length
  have s0 : (start N (.ref a :: vs))[0]? = some (some (.ref a)) := rfl
  have own0 : ∀ (i : Nat) (p : PyData), ((startP N.length (.dict ks0 :: ps)).set 0 (some (true, .dict ks)))[i]? = some (some (true, p)) → i = 0 ∧ p = .dict ks := fun i p e => by
    rcases set_get e with ⟨z, e⟩ | ⟨ne, e⟩
    · cases e; exact ⟨z.symm, rfl⟩
    · exfalso
      unfold startP at e
      by_cases hi : i < (PyData.dict ks0 :: ps).length
      · rw [List.getElem?_append_left (by simpa using hi), List.getElem?_map] at e
        cases q : (PyData.dict ks0 :: ps)[i]? with
        | none => rw [q] at e; cases e
        | some z => rw [q] at e; cases e
      · rw [List.getElem?_append_right (by simpa using hi), List.getElem?_replicate] at e
        split at e <;> cases e
  have sm : Same (hide H a) H := fun b ob e => by
    unfold hide at e
    by_cases z : b = a
    · rw [if_pos z] at e; cases e
    · rw [if_neg z] at e; exact e
  refine ⟨by unfold start startP; simp [hl], fun i p e => ?_, fun i p e => ?_, fun i j p q b e1 e2 _ _ => ?_, sm, ft, Same.refl _⟩
  · rcases set_get e with ⟨z, e⟩ | ⟨ne, e⟩
    · cases e
    · cases i with
      | zero => exact absurd rfl ne
      | succ i =>
        unfold startP at e
        by_cases hi : i < ps.length
        · rw [List.getElem?_append_left (by simpa using hi), List.getElem?_map, List.getElem?_cons_succ] at e
          cases q : ps[i]? with
          | none => rw [q] at e; cases e
          | some z =>
            rw [q] at e
            cases e
            obtain ⟨v, ev, rv⟩ := r.get q
            refine ⟨v, ?_, Rep.sub (fun b y => ?_) _ _ rv⟩
            · unfold start
              rw [List.getElem?_append_left (by simpa [hl] using hi), List.getElem?_map, List.getElem?_cons_succ, ev]; rfl
            · rcases y with y | ⟨j, q2, _, f1, f2⟩
              · exact .inl y
              · obtain ⟨rfl, _⟩ := own0 j q2 f1
                rw [s0] at f2
                cases f2
                exact .inr rfl
        · rw [List.getElem?_append_right (by simpa using hi), List.getElem?_replicate] at e
          split at e <;> cases e
  · obtain ⟨rfl, rfl⟩ := own0 i p e
    exact ⟨a, s0, nF, by unfold hide; exact if_pos rfl, o, dk, ha, fun _ => rfl⟩
  · rw [(own0 i p e1).1, (own0 j q e2).1]
/-- a class as it stands behind the top -/
structure ClsA (K : PySem.W.Frag) (mg : Str → Option Value) (d : Str) : Prop where
  mg : mg d = some (.ref (He.ga K d))
  ok : clOk K d = true
def lenvE (eve : PEnv → R PyData) (r : R Fl) : R Fl := r.bind fun fl => (match fl with
  | .nx ρ1 => (eve ρ1).bind fun p => guardR (noList p) ((optR ρ1[1]?).bind fun sl => (dslot sl).bind fun ks => guardR (isM ks) ((optR (unD ks)).bind fun l => .ok (.rt (.tuple [.dict (dL l), p]))))
  | _ => .bad)
theorem lenvE_nx (eve : PEnv → R PyData) (ρ : PEnv) : lenvE eve (.ok (.nx ρ)) = (eve ρ).bind fun p => guardR (noList p) ((optR ρ[1]?).bind fun sl => (dslot sl).bind fun ks => guardR (isM ks) ((optR (unD ks)).bind fun l => .ok (.rt (.tuple [.dict (dL l), p])))) := rfl
theorem lenv_start {Φ : Nat → List PyData → R PyData} {w n : Nat} {c : List S} {e : E} {p0 : PyData} {ks : List (PyData × PyData)} {ps : List PyData} {l : List (Int × PyData)} (eu : unD ks = some l) :
    evS Φ w (.lenv 1 c e) (startP n (p0 :: .dict ks :: ps)) = lenvE (evE Φ e) (evSs Φ w c ((startP n (p0 :: .dict ks :: ps)).set 1 (some (true, .dict ((.none, .none) :: dL l))))) := by
  unfold evS
  have e0 : (startP n (p0 :: .dict ks :: ps))[1]? = some (some (false, .dict ks)) := rfl
  rw [e0]
  show ((optR (unD ks)).bind fun l => lenvE (evE Φ e) (evSs Φ w c ((startP n (p0 :: .dict ks :: ps)).set 1 (some (true, .dict ((.none, .none) :: dL l)))))) = _
  rw [eu]; rfl
theorem lenv_end {W : XW} {ρ : PEnv} {p : PyData} {P : PyData → Prop} (h : RP W (endV ((R.ok p).bind fun p => guardR (noList p) ((optR ρ[1]?).bind fun sl => (dslot sl).bind fun ks => guardR (isM ks) ((optR (unD ks)).bind fun l => .ok (.rt (.tuple [.dict (dL l), p])))))) P) : noList p = true ∧ ∃ ks l, ρ[1]? = some (some (true, .dict ks)) ∧ isM ks = true ∧ unD ks = some l ∧ P (.tuple [.dict (dL l), p]) := by
  have h : RP W (endV (guardR (noList p) ((optR ρ[1]?).bind fun sl => (dslot sl).bind fun ks => guardR (isM ks) ((optR (unD ks)).bind fun l => .ok (.rt (.tuple [.dict (dL l), p])))))) P := h
  cases nl : noList p with
  | false => rw [nl] at h; exact h.elim
  | true =>
    rw [nl] at h
    have h : RP W (endV ((optR ρ[1]?).bind fun sl => (dslot sl).bind fun ks => guardR (isM ks) ((optR (unD ks)).bind fun l => .ok (.rt (.tuple [.dict (dL l), p]))))) P := h
    refine ⟨rfl, ?_⟩
    cases e1 : ρ[1]? with
    | none => rw [e1] at h; exact h.elim
    | some sl =>
      rw [e1] at h
      cases sl with
      | none => exact h.elim
      | some bp =>
        obtain ⟨bb, q⟩ := bp
        cases bb with
        | false => exact h.elim
        | true =>
          cases q with
          | dict ks1 =>
            have h : RP W (endV (guardR (isM ks1) ((optR (unD ks1)).bind fun l => .ok (.rt (.tuple [.dict (dL l), p]))))) P := h
            cases em : isM ks1 with
            | false => rw [em] at h; exact h.elim
            | true =>
              rw [em] at h
              cases eu1 : unD ks1 with
              | none => rw [eu1] at h; exact h.elim
              | some l1 =>
                rw [eu1] at h
                exact ⟨ks1, l1, rfl, em, eu1, h⟩
          | _ => exact h.elim
theorem start_lentV {K : PySem.W.Frag} {F : Addr → Prop} {H : Hp} {ks ks0 : List (PyData × PyData)} {o : HO} {p0 : PyData} {v0 : V} {ps : List PyData} {vs : List V} {N : List Str} {a : Addr} (dk : dkO ks = some o) (ha : H a = some o) (ft : FT F H) (nF : ¬ F a) (r0 : Rep K (fun b => F b ∨ b = a) H p0 v0) (r : Reps K (fun b => F b ∨ b = a) H ps vs) :
    EnvRep ⟨K, hide H a, fun b => b = a⟩ F (hide H a) H (start N (v0 :: .ref a :: vs)) ((startP N.length (p0 :: .dict ks0 :: ps)).set 1 (some (true, .dict ks))) := by
  have hl := r.length
  have s0 : (start N (v0 :: .ref a :: vs))[1]? = some (some (.ref a)) := rfl
  have own0 : ∀ (i : Nat) (p : PyData), ((startP N.length (p0 :: .dict ks0 :: ps)).set 1 (some (true, .dict ks)))[i]? = some (some (true, p)) → i = 1 ∧ p = .dict ks := fun i p e => by
    rcases set_get e with ⟨z, e⟩ | ⟨ne, e⟩
    · cases e; exact ⟨z.symm, rfl⟩
    · exfalso
      unfold startP at e
      by_cases hi : i < (p0 :: PyData.dict ks0 :: ps).length
      · rw [List.getElem?_append_left (by simpa using hi), List.getElem?_map] at e
        cases q : (p0 :: PyData.dict ks0 :: ps)[i]? with
        | none => rw [q] at e; cases e
        | some z => rw [q] at e; cases e
      · rw [List.getElem?_append_right (by simpa using hi), List.getElem?_replicate] at e
        split at e <;> cases e
  have sm : Same (hide H a) H := fun b ob e => by
    unfold hide at e
    by_cases z : b = a
    · rw [if_pos z] at e; cases e
    · rw [if_neg z] at e; exact e
  have sub : ∀ b, FX F [] (start N (v0 :: .ref a :: vs)) ((startP N.length (p0 :: .dict ks0 :: ps)).set 1 (some (true, .dict ks))) b → F b ∨ b = a := fun b y => by
    rcases y with y | ⟨j, q2, _, f1, f2⟩
    · exact .inl y
    · obtain ⟨rfl, _⟩ := own0 j q2 f1
      rw [s0] at f2
      cases f2
      exact .inr rfl
  refine ⟨by unfold start startP; simp [hl], fun i p e => ?_, fun i p e => ?_, fun i j p q b e1 e2 _ _ => ?_, sm, ft, Same.refl _⟩
  · rcases set_get e with ⟨z, e⟩ | ⟨ne, e⟩
    · cases e
    · cases i with
      | zero =>
        have e : some (some (false, p0)) = some (some (false, p)) := e
        cases e
        exact ⟨v0, rfl, Rep.sub sub _ _ r0⟩
      | succ i =>
        cases i with
        | zero => exact absurd rfl ne
        | succ i =>
          unfold startP at e
          by_cases hi : i < ps.length
          · rw [List.getElem?_append_left (by simpa using hi), List.getElem?_map, List.getElem?_cons_succ, List.getElem?_cons_succ] at e
            cases q : ps[i]? with
            | none => rw [q] at e; cases e
            | some z =>
              rw [q] at e
              cases e
              obtain ⟨v, ev, rv⟩ := r.get q
              refine ⟨v, ?_, Rep.sub sub _ _ rv⟩
              unfold start
              rw [List.getElem?_append_left (by simpa [hl] using hi), List.getElem?_map, List.getElem?_cons_succ, List.getElem?_cons_succ, ev]; rfl
          · rw [List.getElem?_append_right (by simpa using hi), List.getElem?_replicate] at e
            split at e <;> cases e
  · obtain ⟨rfl, rfl⟩ := own0 i p e
    exact ⟨a, s0, nF, by unfold hide; exact if_pos rfl, o, dk, ha, fun _ => rfl⟩
  · rw [(own0 i p e1).1, (own0 j q e2).1]
theorem roomM {k : Nat} {A : Around} (r : L2.Room k A) : A.units + 65 < cLine := by have := r.un; omega
theorem prg_ok {P : Prg} (g : P.good = true) (wf : Nat) {pr : Program} {w : World} {K : PySem.W.Frag} {mg : Str → Option Value} {base : Heap} (A : ∀ d, d ∈ P.defs → ∃ f fd, DefA K mg d f fd) (B : ∀ x p, P.glb.lookup x = some p → GlbA K mg x p) (C : ∀ x, x ∈ P.blts → mg x = none)
    (NK : ∀ d, d ∈ P.defs → d.tn ≠ [] → K.all noKey1 = true) (D1 : ∀ d, d ∈ P.cls → ClsA K mg d) (D2 : ∀ c, c ∈ P.exs → ClsA K mg c ∧ exOk K c = true)
    (WV : ∀ q, P.wv = some q → ∀ (lvl : Nat) (sg ad ts : PF), (∃ f fd, FnAt pr w K mg base lvl "signed" ["phase", "one", "two"] sg f fd) → (∃ f fd, FnAt pr w K mg base lvl "added" ["turn", "turns", "bitset", "e"] ad f fd) → (∃ f fd, FnAt pr w K mg base lvl "ties_of" ["sets"] ts f fd) → WvOk pr w K mg base lvl sg ad ts) :
    ∀ (n : Nat) (d : DefT), d ∈ P.defs → ∀ f fd, DefA K mg d f fd → (d.rf = false → d.ht = false → d.rv = false → FnOk pr w K mg base (CX1 pr w) (3 * n) f fd d.ps (spF K d.fr (call P.tab wf n d.id) d.ps.length)) ∧ (d.rf = true → d.ht = false → d.rv = false → FnOk pr w K mg base (CX1 pr w) (3 * n) f fd d.ps (spR K (call P.tab wf n d.id) d.ps.length)) ∧ (d.rf = false → d.ht = true → d.rv = false → FnT pr w K mg base (CX1 pr w) (3 * n) f fd d.ps (spF K d.fr (call P.tab wf n d.id) d.ps.length)) ∧ (d.rv = true → FnOk pr w K mg base (CX1 pr w) (3 * n) f fd d.ps (spV K (call P.tab wf n d.id) d.ps.length)) := by
  intro n
  induction n with
  | zero =>
    intro d hd f fd D
    refine ⟨fun _ _ _ => ⟨fun vs H Q E h => h.1, fun A outer s H args us vs Q E _ _ _ _ h => ?_⟩, fun _ _ _ => ⟨fun vs H Q E h => h.1, fun A outer s H args us vs Q E _ _ _ _ h => ?_⟩, fun _ _ _ => ⟨fun vs H Q E h => h.1, fun A outer s H args us vs Q E _ _ _ _ _ _ _ _ h => ?_⟩, fun _ => ⟨fun vs H Q E h => h.1, fun A outer s H args us vs Q E _ _ _ _ h => ?_⟩⟩
    · obtain ⟨_, F, ps, _, _, h⟩ := h
      exact h.elim
    · obtain ⟨_, F, ks, ps, a, o, vs', _, _, _, _, _, _, _, _, h⟩ := h
      exact h.elim
    · obtain ⟨_, F, ps, _, _, h⟩ := h
      exact h.elim
    · obtain ⟨_, F, ks, p0, ps, a, o, v0, vs', _, _, _, _, _, _, _, _, _, h⟩ := h
      exact h.elim
  | succ n ih =>
    intro d hd f fd D
    have sc := P.tab_sc g hd
    obtain ⟨dvs, fn⟩ := D.fn
    have fnsA : ∀ x m I, P.fns.lookup x = some (m, I) → ∃ f fd, mg x = some (.ref f) ∧ PySem.W.keepIn K (.ref f) = true ∧ FnOk pr w K mg base (CX1 pr w) (3 * n) f fd I.ps (spF K I.fr (call P.tab wf n m) I.ps.length) ∧
        ∀ j, j ≤ I.ds.length → ∃ ds dvs, Binds K fd I.ps ds ∧ Vals dvs ds ∧ ∀ F H, Reps K F H (I.ds.drop j) dvs := fun x m I e => by
      have hm : (x, (m, I)) ∈ P.fns := PySem.mem_of_lookup e
      obtain ⟨d2, h2, e2⟩ := List.mem_map.mp hm
      cases e2
      obtain ⟨h2, h3⟩ := List.mem_filter.mp h2
      rw [Bool.and_eq_true, Bool.and_eq_true] at h3
      obtain ⟨f2, fd2, D2⟩ := A d2 h2
      obtain ⟨dv2, fn2⟩ := D2.fn
      exact ⟨f2, fd2, D2.mg, fn2.kp, (ih d2 h2 f2 fd2 D2).1 (by simpa using h3.1.1) (by simpa using h3.1.2) (by simpa using h3.2), D2.bind⟩
    have fnrA : ∀ x m I, P.fnr.lookup x = some (m, I) → ∃ f fd, mg x = some (.ref f) ∧ PySem.W.keepIn K (.ref f) = true ∧ FnOk pr w K mg base (CX1 pr w) (3 * n) f fd I.ps (spR K (call P.tab wf n m) I.ps.length) ∧ Binds K fd I.ps [] := fun x m I e => by
      have hm : (x, (m, I)) ∈ P.fnr := PySem.mem_of_lookup e
      obtain ⟨d2, h2, e2⟩ := List.mem_map.mp hm
      cases e2
      obtain ⟨h2, h3⟩ := List.mem_filter.mp h2
      rw [Bool.and_eq_true, Bool.and_eq_true] at h3
      obtain ⟨f2, fd2, D2⟩ := A d2 h2
      obtain ⟨dv2, fn2⟩ := D2.fn
      refine ⟨f2, fd2, D2.mg, fn2.kp, (ih d2 h2 f2 fd2 D2).2.1 (by simpa using h3.1.1) (by simpa using h3.1.2) (by simpa using h3.2), ?_⟩
      obtain ⟨ds, dvs, hb, hv, hr⟩ := D2.bind d2.ds.length (Nat.le_refl _)
      have r0 := hr (fun _ => False) (fun _ => none)
      rw [List.drop_length] at r0
      cases dvs with
      | cons _ _ => unfold Reps at r0; exact r0.elim
      | nil => cases hv; exact hb
    have fnvA : ∀ x m I, P.fnv.lookup x = some (m, I) → ∃ f fd, mg x = some (.ref f) ∧ PySem.W.keepIn K (.ref f) = true ∧ FnOk pr w K mg base (CX1 pr w) (3 * n) f fd I.ps (spV K (call P.tab wf n m) I.ps.length) ∧ Binds K fd I.ps [] := fun x m I e => by
      have hm : (x, (m, I)) ∈ P.fnv := PySem.mem_of_lookup e
      obtain ⟨d2, h2, e2⟩ := List.mem_map.mp hm
      cases e2
      obtain ⟨h2, h3⟩ := List.mem_filter.mp h2
      obtain ⟨f2, fd2, D2⟩ := A d2 h2
      obtain ⟨dv2, fn2⟩ := D2.fn
      refine ⟨f2, fd2, D2.mg, fn2.kp, (ih d2 h2 f2 fd2 D2).2.2.2 h3, ?_⟩
      obtain ⟨ds, dvs, hb, hv, hr⟩ := D2.bind d2.ds.length (Nat.le_refl _)
      have r0 := hr (fun _ => False) (fun _ => none)
      rw [List.drop_length] at r0
      cases dvs with
      | cons _ _ => unfold Reps at r0; exact r0.elim
      | nil => cases hv; exact hb
    have fnhA : ∀ x m I, P.fnh.lookup x = some (m, I) → ∃ f fd, mg x = some (.ref f) ∧ PySem.W.keepIn K (.ref f) = true ∧ FnT pr w K mg base (CX1 pr w) (3 * n) f fd I.ps (spF K I.fr (call P.tab wf n m) I.ps.length) ∧ Binds K fd I.ps [] := fun x m I e => by
      have hm : (x, (m, I)) ∈ P.fnh := PySem.mem_of_lookup e
      obtain ⟨d2, h2, e2⟩ := List.mem_map.mp hm
      cases e2
      obtain ⟨h2, h4⟩ := List.mem_filter.mp h2
      rw [Bool.and_eq_true, Bool.and_eq_true] at h4
      obtain ⟨f2, fd2, D2⟩ := A d2 h2
      obtain ⟨dv2, fn2⟩ := D2.fn
      refine ⟨f2, fd2, D2.mg, fn2.kp, (ih d2 h2 f2 fd2 D2).2.2.1 (by simpa using h4.1.1) (by simpa using h4.1.2) (by simpa using h4.2), ?_⟩
      obtain ⟨ds, dvs, hb, hv, hr⟩ := D2.bind d2.ds.length (Nat.le_refl _)
      have r0 := hr (fun _ => False) (fun _ => none)
      rw [List.drop_length] at r0
      cases dvs with
      | cons _ _ => unfold Reps at r0; exact r0.elim
      | nil => cases hv; exact hb
    have wvA : ∀ q, P.wv.map (·.ids) = some q → WvOk pr w K mg base (3 * n) (call P.tab wf n q.1) (call P.tab wf n q.2.1) (call P.tab wf n q.2.2) := fun q e => by
      cases ew : P.wv with
      | none => rw [ew] at e; cases e
      | some z =>
        rw [ew] at e
        cases e
        have gw := Prg.g0 g
        unfold Prg.good0 at gw
        rw [Bool.and_eq_true, Bool.and_eq_true] at gw
        have gw := gw.1.1
        unfold Prg.wvC at gw
        rw [ew] at gw
        have gw : (fnC (P.fns.lookup ("signed" : Str)) z.ids.1 ["phase", "one", "two"] && fnC (P.fns.lookup ("added" : Str)) z.ids.2.1 ["turn", "turns", "bitset", "e"] && fnC (P.fns.lookup ("ties_of" : Str)) z.ids.2.2 ["sets"]) = true := gw
        rw [Bool.and_eq_true, Bool.and_eq_true] at gw
        have at_ : ∀ {x : Str} {id : Nat} {ps : List Str}, fnC (P.fns.lookup x) id ps = true → ∃ f fd, FnAt pr w K mg base (3 * n) x ps (call P.tab wf n id) f fd := fun {x id ps} h => by
          obtain ⟨f, fd, h1, h2, h3, h4⟩ := fnsA _ _ _ (fnC_ok h)
          obtain ⟨ds, dvs, hb, hv, hr⟩ := h4 0 (Nat.zero_le _)
          have r0 := hr (fun _ => False) (fun _ => none)
          cases dvs with
          | cons _ _ => unfold Reps at r0; exact r0.elim
          | nil => cases hv; exact ⟨f, fd, h1, h2, h3, hb⟩
        exact WV z ew _ _ _ _ (at_ gw.1.1) (at_ gw.1.2) (at_ gw.2)
    refine ⟨fun hrf hht hrv => ?_, fun hrf hht hrv => ?_, fun hrf hht hrv => ?_, fun hrv => ?_⟩
    case' refine_4 =>
      obtain ⟨c, ht, hht⟩ := P.tab_ofV g hd hrv
      refine fn.ok (k := 3 * n + 2) sc (fun vs H Q E h => h.1) fun cdv A' outer s H vs Q E hr h => ?_
      obtain ⟨hl, F, ks, p0, ps, a, o, v0, vs', rfl, dk, ud, um, ha, ft, nF, r0, r, h⟩ := h
      have cx : CxOk ⟨3 * n, hide H a, fun b => b = a⟩ (fun _ _ => False) (P.tb d) (call P.tab wf n) (cxOf (CX1 pr w) pr w K mg base d.N d.x (defScope d.st) f cdv A' outer s H E) := {
        N := rfl
        nd := sc.nd
        sc := rfl
        fnb := fun _ _ => rfl
        calm := fun _ => rfl
        room := fun _ => hr.mono (Nat.le_add_right _ _)
        roomW := fun _ => hr
        wv := wvA
        units := hr.units
        unitsM := roomM hr
        pass := fun _ _ _ _ _ _ _ _ z => (pass_no z).elim
        tk := fun _ => tk_no
        stk := fun _ => ⟨rfl, rfl⟩
        own := passes_of rfl
        fns := fnsA
        fnr := fnrA
        fnv := fnvA
        hot := fun z => by rw [show (P.tb d).ht = d.ht from rfl, hht] at z; cases z
        fnh := fnhA
        blt := C
        glb := fun x p e => (B x p e).ex
        cls := fun d hd => ⟨(D1 d hd).mg, (D1 d hd).ok⟩
        exs := fun c hc => ⟨(D2 c hc).1.mg, (D2 c hc).2⟩
        nk := fun z => NK d hd z }
      obtain ⟨l, eu, rfl⟩ := dkO_un ud dk
      refine ⟨_, c.ok ⟨3 * n, hide H a, fun b => b = a⟩ _ (call P.tab wf n) wf _ cx, (startP d.N.length (p0 :: .dict ks :: ps)).set 1 (some (true, .dict ((.none, .none) :: dL l))), F, hide H a, start_lentV (dkO_of (show unD ((.none, .none) :: dL l) = some l from unDs_dL (unD_sc eu))) ha ft nF r0 r, ?_⟩
      unfold call at h
      rw [ht] at h
      obtain ⟨_, h⟩ := RP.guard h
      rw [evSs_one, lenv_start eu] at h
      cases e : evSs (call P.tab wf n) wf c.c ((startP d.N.length (p0 :: .dict ks :: ps)).set 1 (some (true, .dict ((.none, .none) :: dL l)))) with
      | bad => rw [e] at h; exact h.elim
      | ex z as => rw [e] at h; exact h.elim
      | ok fl =>
        rw [e] at h
        cases fl with
        | rt p => exact h.elim
        | bk ρ => exact h.elim
        | ct ρ => exact h.elim
        | nx ρ =>
          refine ⟨ρ, rfl, ?_⟩
          cases ee : evE (call P.tab wf n) c.e ρ with
          | bad => rw [lenvE_nx, ee] at h; exact h.elim
          | ex z as => rw [lenvE_nx, ee] at h; exact h.elim
          | ok p =>
            rw [lenvE_nx, ee] at h
            obtain ⟨nl, ks1, l1, e1, em, eu1, h⟩ := lenv_end h
            refine ⟨nl, fun v H' σ' er rv => ?_⟩
            obtain ⟨a1, f1, _, _, o1, g1, g2, g3⟩ := er.ow 1 _ e1
            have ea : a1 = a := g3 em
            subst ea
            rw [dkO_of eu1] at g1
            cases g1
            exact h (dL l1) _ p v H' rfl (isM_dL _) (dkO_of (unD_dL (unD_sc eu1))) nl (fun b ob ne eb => er.same b ob (by unfold hide; rw [if_neg ne]; exact eb)) g2 rv
    all_goals obtain ⟨c, ht, _⟩ := P.tab_of g hd hrv
    case' refine_2 =>
      refine fn.ok (k := 3 * n + 2) sc (fun vs H Q E h => h.1) fun cdv A' outer s H vs Q E hr h => ?_
      obtain ⟨hl, F, ks, ps, a, o, vs', rfl, dk, ud, um, ha, ft, nF, r, h⟩ := h
      have cx : CxOk ⟨3 * n, hide H a, fun b => b = a⟩ (fun _ _ => False) (P.tb d) (call P.tab wf n) (cxOf (CX1 pr w) pr w K mg base d.N d.x (defScope d.st) f cdv A' outer s H E) := {
        N := rfl
        nd := sc.nd
        sc := rfl
        fnb := fun _ _ => rfl
        calm := fun _ => rfl
        room := fun _ => hr.mono (Nat.le_add_right _ _)
        roomW := fun _ => hr
        wv := wvA
        units := hr.units
        unitsM := roomM hr
        pass := fun _ _ _ _ _ _ _ _ z => (pass_no z).elim
        tk := fun _ => tk_no
        stk := fun _ => ⟨rfl, rfl⟩
        own := passes_of rfl
        fns := fnsA
        fnr := fnrA
        fnv := fnvA
        hot := fun z => by rw [show (P.tb d).ht = d.ht from rfl, hht] at z; cases z
        fnh := fnhA
        blt := C
        glb := fun x p e => (B x p e).ex
        cls := fun d hd => ⟨(D1 d hd).mg, (D1 d hd).ok⟩
        exs := fun c hc => ⟨(D2 c hc).1.mg, (D2 c hc).2⟩
        nk := fun z => NK d hd z }
      obtain ⟨l, eu, rfl⟩ := dkO_un ud dk
      have el : startP d.N.length (.dict ks :: ps) = (some (false, .dict ks) : Sl) :: (startP d.N.length (.dict ks :: ps)).tail := rfl
      refine ⟨_, c.2 ⟨3 * n, hide H a, fun b => b = a⟩ _ (call P.tab wf n) wf _ cx, (startP d.N.length (.dict ks :: ps)).set 0 (some (true, .dict ((.none, .none) :: dL l))), F, hide H a, start_lent (dkO_of (show unD ((.none, .none) :: dL l) = some l from unDs_dL (unD_sc eu))) ha ft nF r, ?_⟩
      unfold call at h
      rw [ht] at h
      obtain ⟨_, h⟩ := RP.guard h
      rw [if_pos hrf] at h
      rw [evSs_one, lent_start eu] at h
      cases e : evSs (call P.tab wf n) wf c.1 ((startP d.N.length (.dict ks :: ps)).set 0 (some (true, .dict ((.none, .none) :: dL l)))) with
      | bad => rw [e] at h; exact h.elim
      | ex z as => rw [e] at h; exact h.elim
      | ok fl =>
        rw [e] at h
        cases fl with
        | rt p => exact h.elim
        | bk ρ => exact h.elim
        | ct ρ => exact h.elim
        | nx ρ =>
          refine fun σ' H' er => ?_
          obtain ⟨ks1, l1, e1, em, eu1, h⟩ := lent_end h
          obtain ⟨a1, f1, _, _, o1, g1, g2, g3⟩ := er.ow 0 _ e1
          have ea : a1 = a := g3 em
          subst ea
          rw [dkO_of eu1] at g1
          cases g1
          exact h (dL l1) _ H' rfl (isM_dL _) (dkO_of (unD_dL (unD_sc eu1))) (fun b ob ne eb => er.same b ob (by unfold hide; rw [if_neg ne]; exact eb)) g2
    case' refine_3 =>
      refine FunD.hot (k := 3 * n + 2) fn sc (fun vs H Q E h => h.1) fun cdv A' outer s H vs Q E a0 cls0 hhd hex hr h => ?_
      obtain ⟨hl, F, ps, ft, r, h⟩ := h
      have tk := L2N.takes_of (X := cxT (CX1 pr w) pr w K mg base d.N d.x (defScope d.st) f cdv A' outer s H E) (E := fun cls d' H' => E cls d' H' ∧ Same H H') rfl rfl rfl rfl
      have wish : ∀ {cls : Value} {d' : Option Addr} {H' : Hp}, EKc K (fun c as => EOc K c as H E) cls d' H' → Same H H' → E cls d' H' := fun {cls d' H'} ⟨c, as, q, r⟩ sm => q cls d' H' sm r
      have cx : CxOk ⟨3 * n, H, fun _ => False⟩ (fun c as => EOc K c as H E) (P.tb d) (call P.tab wf n) (cxT (CX1 pr w) pr w K mg base d.N d.x (defScope d.st) f cdv A' outer s H E) := {
        N := rfl
        nd := sc.nd
        sc := rfl
        fnb := fun _ _ => rfl
        calm := fun z => by rw [show (P.tb d).cm = !d.ht from rfl, hht] at z; cases z
        room := fun z => by rw [show (P.tb d).cm = !d.ht from rfl, hht] at z; cases z
        roomW := fun z => by rw [show (P.tb d).cm = !d.ht from rfl, hht] at z; cases z
        wv := wvA
        units := by have := hr.un; show (A'.deeper _).units + 64 < _; omega
        unitsM := by have := hr.un; show (A'.deeper _).units + 65 < _; omega
        pass := fun pins σ H1 s1 e s' sm I z => tk e s' (L2N.XE.of_call (E := fun cls d' H' => EKc K (fun c as => EOc K c as H E) cls d' H' ∧ Same H1 H') I (fun cls d' H' q => ⟨wish q.1 (sm.trans q.2), sm.trans q.2⟩) z)
        tk := fun _ => tk.imp fun cls d' σ H' q => ⟨wish q.2 q.1, q.1⟩
        stk := fun _ => ⟨rfl, rfl⟩
        own := passes_of rfl
        fns := fnsA
        fnr := fnrA
        fnv := fnvA
        hot := fun _ => ⟨a0, cls0, hhd, hex⟩
        fnh := fnhA
        blt := C
        glb := fun x p e => (B x p e).ex
        cls := fun d hd => ⟨(D1 d hd).mg, (D1 d hd).ok⟩
        exs := fun c hc => ⟨(D2 c hc).1.mg, (D2 c hc).2⟩
        nk := fun z => NK d hd z }
      refine ⟨_, c.2 ⟨3 * n, H, fun _ => False⟩ _ (call P.tab wf n) wf _ cx, startP d.N.length ps, F, H, start_rep (Same.refl H) ft r, ?_⟩
      unfold call at h
      rw [ht] at h
      obtain ⟨_, h⟩ := RP.guard h
      rw [if_neg (by rw [hrf]; decide)] at h
      cases e : evSs (call P.tab wf n) wf c.1 (startP d.N.length ps) with
      | bad => rw [e] at h; exact h.elim
      | ex z as => rw [e] at h; exact h
      | ok fl =>
        rw [e] at h
        cases fl with
        | nx ρ => exact fun σ' H' er => h .non H' er.same (repR_of (by unfold Rep; rfl) rfl)
        | rt p => exact fun v H' sm rr => h v H' sm rr
        | bk ρ => exact h.elim
        | ct ρ => exact h.elim
    refine fn.ok (k := 3 * n + 2) sc (fun vs H Q E h => h.1) fun cdv A' outer s H vs Q E hr h => ?_
    obtain ⟨hl, F, ps, ft, r, h⟩ := h
    have tk := L2N.takes_of (X := cxOf (CX1 pr w) pr w K mg base d.N d.x (defScope d.st) f cdv A' outer s H E) (E := fun cls d' H' => E cls d' H' ∧ Same H H') rfl rfl rfl rfl
    have wish : ∀ {cls : Value} {d' : Option Addr} {H' : Hp}, EKc K (fun c as => EOc K c as H E) cls d' H' → Same H H' → E cls d' H' := fun {cls d' H'} ⟨c, as, q, r⟩ sm => q cls d' H' sm r
    have cx : CxOk ⟨3 * n, H, fun _ => False⟩ (fun c as => EOc K c as H E) (P.tb d) (call P.tab wf n) (cxOf (CX1 pr w) pr w K mg base d.N d.x (defScope d.st) f cdv A' outer s H E) := {
      N := rfl
      nd := sc.nd
      sc := rfl
      fnb := fun _ _ => rfl
      calm := fun _ => rfl
      room := fun _ => hr.mono (Nat.le_add_right _ _)
      roomW := fun _ => hr
      wv := wvA
      units := hr.units
      unitsM := roomM hr
      pass := fun pins σ H1 s1 e s' sm I z => tk e s' (L2N.XE.of_call (E := fun cls d' H' => EKc K (fun c as => EOc K c as H E) cls d' H' ∧ Same H1 H') I (fun cls d' H' q => ⟨wish q.1 (sm.trans q.2), sm.trans q.2⟩) z)
      tk := fun _ => tk.imp fun cls d' σ H' q => ⟨wish q.2 q.1, q.1⟩
      stk := fun _ => ⟨rfl, rfl⟩
      own := passes_of rfl
      fns := fnsA
      fnr := fnrA
      fnv := fnvA
      hot := fun z => by rw [show (P.tb d).ht = d.ht from rfl, hht] at z; cases z
      fnh := fnhA
      blt := C
      glb := fun x p e => (B x p e).ex
      cls := fun d hd => ⟨(D1 d hd).mg, (D1 d hd).ok⟩
      exs := fun c hc => ⟨(D2 c hc).1.mg, (D2 c hc).2⟩
      nk := fun z => NK d hd z }
    refine ⟨_, c.2 ⟨3 * n, H, fun _ => False⟩ _ (call P.tab wf n) wf _ cx, startP d.N.length ps, F, H, start_rep (Same.refl H) ft r, ?_⟩
    unfold call at h
    rw [ht] at h
    obtain ⟨_, h⟩ := RP.guard h
    rw [if_neg (by rw [hrf]; decide)] at h
    cases e : evSs (call P.tab wf n) wf c.1 (startP d.N.length ps) with
    | bad => rw [e] at h; exact h.elim
    | ex z as => rw [e] at h; exact h
    | ok fl =>
      rw [e] at h
      cases fl with
      | nx ρ => exact fun σ' H' er => h .non H' er.same (repR_of (by unfold Rep; rfl) rfl)
      | rt p => exact fun v H' sm rr => h v H' sm rr
      | bk ρ => exact h.elim
      | ct ρ => exact h.elim
theorem lenv_no (Φ : Nat → List PyData → R PyData) (w m : Nat) (c : List S) (e : E) {k : Nat} {z : PyData} : ¬ guardR (decide (([.list (([] : List Int).map .int)] : List PyData).length = k)) (endV (evSs Φ w [.lenv 1 c e] (startP m [.list (([] : List Int).map .int)]))) = .ok z := fun h => by
  have e : evSs Φ w [.lenv 1 c e] (startP m [.list (([] : List Int).map .int)]) = .bad := by
    unfold evSs evS
    match m with
    | 0 => rfl
    | 1 => rfl
    | m + 2 => rfl
  rw [e] at h
  cases hk : decide (([.list (([] : List Int).map .int)] : List PyData).length = k) with
  | true => rw [hk] at h; cases h
  | false => rw [hk] at h; cases h
theorem lent_no (Φ : Nat → List PyData → R PyData) (w m : Nat) (c : List S) {k : Nat} {z : PyData} : ¬ guardR (decide (([.list (([] : List Int).map .int)] : List PyData).length = k)) (endV (evSs Φ w [.lent c] (startP m [.list (([] : List Int).map .int)]))) = .ok z := fun h => by
  have e : evSs Φ w [.lent c] (startP m [.list (([] : List Int).map .int)]) = .bad := by
    unfold evSs evS; rfl
  rw [e] at h
  cases hk : decide (([.list (([] : List Int).map .int)] : List PyData).length = k) with
  | true => rw [hk] at h; cases h
  | false => rw [hk] at h; cases h
/-- the law's promise -/
def spLaw (K : PySem.W.Frag) : Sp := fun vs H Q _ => ∃ (a : Addr) (ns : List Int), vs = [.ref a] ∧ SqL K H a (ns.map V.int) ∧ ns.length ≤ 63 ∧ ∀ H', Q (.bl true) H'
theorem fnOk_no {P : Program} {w : World} {K : PySem.W.Frag} {mg : Str → Option Value} {base : Heap} {k : Nat} {f : Addr} {fd : FuncData} {ps : List Str} {sp sp' : Sp} (F : FnOk P w K mg base (CX1 P w) k f fd ps sp) (h : ∀ vs H Q E, sp' vs H Q E → sp vs H Q E0) : FnOk P w K mg base CX0 k f fd ps sp' := by
  refine ⟨fun vs H Q E z => F.len _ _ _ _ (h _ _ _ _ z), fun A outer s H args us vs Q E a b c d z => ?_⟩
  refine codeAny_mono (F.run A outer s H args us vs Q E0 a b c d (h _ _ _ _ z)) fun r s' hq => ?_
  cases r with
  | error e =>
    obtain ⟨_, _, _, _, _, _, _, _, _, _, _, _, q, _⟩ := hq
    exact q.elim
  | ok fl => cases fl <;> exact hq
theorem law_ok {P : Prg} (g : P.good = true) (wf n : Nat) {pr : Program} {w : World} {K : PySem.W.Frag} {mg : Str → Option Value} {base : Heap} (A : ∀ d, d ∈ P.defs → ∃ f fd, DefA K mg d f fd) (B : ∀ x p, P.glb.lookup x = some p → GlbA K mg x p) (C : ∀ x, x ∈ P.blts → mg x = none)
    (NK : ∀ d, d ∈ P.defs → d.tn ≠ [] → K.all noKey1 = true) (D1 : ∀ d, d ∈ P.cls → ClsA K mg d) (D2 : ∀ c, c ∈ P.exs → ClsA K mg c ∧ exOk K c = true)
    (WV : ∀ q, P.wv = some q → ∀ (lvl : Nat) (sg ad ts : PF), (∃ f fd, FnAt pr w K mg base lvl "signed" ["phase", "one", "two"] sg f fd) → (∃ f fd, FnAt pr w K mg base lvl "added" ["turn", "turns", "bitset", "e"] ad f fd) → (∃ f fd, FnAt pr w K mg base lvl "ties_of" ["sets"] ts f fd) → WvOk pr w K mg base lvl sg ad ts)
    {d : DefT} (hd : d ∈ P.defs) {f : Addr} {fd : FuncData} (D : DefA K mg d f fd) (hp : d.ps.length = 1) (hnt : d.ht = false) (main : ∀ ns : List Int, ns.length ≤ 63 → call P.tab wf n d.id [.list (ns.map .int)] = .ok (.bool true)) :
    FnOk pr w K mg base CX0 (3 * n) f fd d.ps (spLaw K) := by
  have nrv : d.rv = false := by
    cases hrv : d.rv with
    | false => rfl
    | true =>
      have m := main [] (by show 0 ≤ 63; decide)
      cases n with
      | zero => cases m
      | succ n =>
        obtain ⟨c, ht, _⟩ := P.tab_ofV g hd hrv
        unfold call at m
        rw [ht] at m
        exact absurd m (lenv_no _ _ _ _ _)
  have nrf : d.rf = false := by
    cases hrf : d.rf with
    | false => rfl
    | true =>
      have m := main [] (by show 0 ≤ 63; decide)
      cases n with
      | zero => cases m
      | succ n =>
        obtain ⟨c, ht, _⟩ := P.tab_of g hd nrv
        unfold call at m
        rw [ht] at m
        simp only [hrf, if_true] at m
        exact absurd m (lent_no _ _ _ _)
  refine fnOk_no ((prg_ok g wf A B C NK D1 D2 WV n d hd f fd D).1 nrf hnt nrv) fun vs H Q E h => ?_
  obtain ⟨a, ns, rfl, sq, hl, q⟩ := h
  refine ⟨hp.symm, fun _ => False, [.list (ns.map .int)], fun _ z => z.elim, ?_, ?_⟩
  · unfold Reps
    refine ⟨?_, by unfold Reps; trivial⟩
    unfold Rep
    refine ⟨a, ns.map V.int, rfl, ?_, reps_ints ns⟩
    rcases sq with sq | sq
    · exact .inl ⟨fun z => z, sq⟩
    · exact .inr sq
  · rw [main ns hl]
    intro v H' s r
    have e := r.1
    unfold Rep at e
    subst e
    exact q H'
end L2.Pu
namespace L2.Pu
open PySem PySem.Spec PyProof.Rows
theorem lookup_zip : ∀ {ps : List Str} {us : List Value} {x : Str}, x ∈ ps → ps.length ≤ us.length → ((ps.zip us).lookup x).isSome = true
  | [], _, _, h, _ => by cases h
  | p :: ps, [], _, _, h => by simp at h
  | p :: ps, u :: us, x, h, hl => by
    show (((p, u) :: ps.zip us).lookup x).isSome = true
    by_cases e : x = p
    · subst e; simp
    · rw [List.lookup_cons]
      have : (x == p) = false := by simpa using e
      rw [this]
      rcases List.mem_cons.mp h with z | z
      · exact absurd z e
      · exact lookup_zip z (by simpa using hl)
theorem zip_lookups : ∀ {ps : List Str} {us : List Value}, ps.Nodup → ps.length = us.length → (ps.filterMap fun n => ((ps.zip us).lookup n).map (n, ·)) = ps.zip us := by
  intro ps us
  induction ps generalizing us with
  | nil => intro _ _; rfl
  | cons p ps ih =>
    intro nd hl
    cases us with
    | nil => simp at hl
    | cons u us =>
      rw [List.nodup_cons] at nd
      rw [List.zip_cons_cons, List.filterMap_cons]
      have e1 : (((p, u) :: ps.zip us).lookup p) = some u := by simp
      rw [e1]
      show (p, u) :: _ = _
      congr 1
      rw [← ih (us := us) nd.2 (by simpa using hl)]
      rw [ih (us := us) nd.2 (by simpa using hl)]
      have aux : ∀ l : List Str, (∀ x, x ∈ l → x ∈ ps) → (l.filterMap fun n => (((p, u) :: ps.zip us).lookup n).map (n, ·)) = l.filterMap fun n => ((ps.zip us).lookup n).map (n, ·) := by
        intro l
        induction l with
        | nil => intro _; rfl
        | cons y l ihl =>
          intro hs
          have ne : (y == p) = false := by
            rw [beq_eq_false_iff_ne]
            intro z
            subst z
            exact nd.1 (hs _ List.mem_cons_self)
          rw [List.filterMap_cons, List.filterMap_cons, List.lookup_cons, ne, ihl fun x hx => hs x (List.mem_cons_of_mem _ hx)]
      rw [aux ps fun _ h => h]
      exact ih (us := us) nd.2 (by simpa using hl)
theorem no_missing {ps l : List Str} {us : List Value} (hs : ∀ x, x ∈ l → x ∈ ps) (hl : ps.length ≤ us.length) : (l.filter fun n => ((ps.zip us).lookup n).isNone) = [] := by
  rw [List.filter_eq_nil_iff]
  intro x hx
  have := lookup_zip (us := us) (hs x hx) hl
  cases e : (ps.zip us).lookup x with
  | none => rw [e] at this; cases this
  | some v => simp
theorem seqNone : seqItems? Value.none = pure none := rfl
theorem bind_none {x qual : Str} {as : List Arg} {df : List PySem.Expr} {body : List Stmt} {sc : Scope} {kV doc pm : Value} {an : Option Addr} {cdv ct : Value} {us : List Value} (nd : (as.map (·.arg)).Nodup) (hl : us.length = as.length) :
    bindArgs (PySem.W.fnOf x qual ⟨[], as, none, [], [], none, df⟩ body sc .none kV doc pm an cdv ct) ⟨us, []⟩ = pure ((as.map (·.arg)).zip us) := by
  have hle : (as.map (·.arg)).length = us.length := by rw [List.length_map, hl]
  unfold bindArgs
  simp only [List.map_nil, List.nil_append, List.forIn_nil, pure_bind, seqNone, Option.getD_none]
  have c1 : decide (us.length > (as.map (·.arg)).length) = false := decide_eq_false (by omega)
  rw [c1]
  have dn : (#[] : Array Value).toList = [] := rfl
  simp only [Bool.false_and, Bool.false_eq_true, if_false, dn, List.drop_nil, List.zip_nil_right, List.forIn_nil, pure_bind]
  rw [no_missing (fun _ h => List.mem_of_mem_take h) (Nat.le_of_eq hle)]
  simp only [List.isEmpty_nil, Bool.not_true, Bool.false_eq_true, if_false, pure_bind, List.append_nil]
  rw [zip_lookups nd hle]
theorem zip_short {ps : List Str} {q : Str} {us : List Value} (h : us.length = ps.length) : (ps ++ [q]).zip us = ps.zip us := by
  induction ps generalizing us with
  | nil => cases us with
    | nil => rfl
    | cons _ _ => simp at h
  | cons p ps ih => cases us with
    | nil => simp at h
    | cons u us =>
      show (p, u) :: (ps ++ [q]).zip us = (p, u) :: ps.zip us
      rw [ih (by simpa using h)]
theorem lookup_out {ps : List Str} {q : Str} (h : q ∉ ps) : ∀ us : List Value, (ps.zip us).lookup q = none := by
  induction ps with
  | nil => intro us; rfl
  | cons p ps ih =>
    intro us
    cases us with
    | nil => rfl
    | cons u us =>
      rw [List.zip_cons_cons, List.lookup_cons]
      have ne : (q == p) = false := by
        rw [beq_eq_false_iff_ne]
        intro z
        exact h (by rw [z]; exact List.mem_cons_self)
      rw [ne]
      exact ih (fun z => h (List.mem_cons_of_mem _ z)) us
/-- .. with one default, at T -/
theorem bind_dflt {x qual : Str} {as : List Arg} {df : List PySem.Expr} {body : List Stmt} {sc : Scope} {kV doc pm : Value} {an : Option Addr} {cdv ct : Value} {us : List Value} {t : Value} {T : Addr} {ps : List Str} {q : Str} (j : Nat) (hq : as.map (·.arg) = ps ++ [q]) (nd : (ps ++ [q]).Nodup) (hj : j ≤ 1) (hl : us.length = ps.length + j) :
    ∃ k, bindArgs (PySem.W.fnOf x qual ⟨[], as, none, [], [], none, df⟩ body sc (.ref T) kV doc pm an cdv ct) ⟨us, []⟩ = seqItems? (.ref T) >>= k ∧ k (some [t].toArray) = pure ((ps ++ [q]).zip (us ++ [t].drop j)) := by
  unfold bindArgs
  simp only [List.map_nil, List.nil_append, List.forIn_nil, pure_bind, hq]
  refine ⟨_, rfl, ?_⟩
  have hle : (ps ++ [q]).length = ps.length + 1 := by simp
  simp only [Option.getD_some]
  have c1 : decide (us.length > (ps ++ [q]).length) = false := decide_eq_false (by omega)
  rw [c1]
  have nq : q ∉ ps := by
    rw [List.nodup_append] at nd
    exact fun z => nd.2.2 q z q (by simp) rfl
  have d1 : ([t].toArray.toList.length - (ps ++ [q]).length) = 0 := by
    rw [hle]
    show 1 - (ps.length + 1) = 0
    omega
  have d2 : (ps ++ [q]).length - [t].toArray.toList.length = ps.length := by
    rw [hle]; rfl
  simp only [Bool.false_and, Bool.false_eq_true, if_false, d1, List.drop_zero, d2, List.take_left', List.drop_left']
  have nm : (ps.filter fun n => (((ps ++ [q]).zip us).lookup n).isNone) = [] := by
    rw [List.filter_eq_nil_iff]
    intro y hy
    have h2 : (((ps ++ [q]).zip us).lookup y).isSome = true := by
      rcases Nat.le_one_iff_eq_zero_or_eq_one.mp hj with z | z
      · subst z
        rw [zip_short (by omega)]
        exact lookup_zip hy (by omega)
      · subst z
        exact lookup_zip (List.mem_append_left [q] hy) (by rw [hle]; omega)
    cases e : ((ps ++ [q]).zip us).lookup y with
    | none => rw [e] at h2; cases h2
    | some v => simp
  rw [nm]
  have zz : [q].zip [t] = [(q, t)] := rfl
  simp only [List.isEmpty_nil, Bool.not_true, Bool.false_eq_true, if_false, zz, List.forIn_cons, List.forIn_nil, List.append_nil]
  rcases Nat.le_one_iff_eq_zero_or_eq_one.mp hj with z | z
  · subst z
    have hl0 : us.length = ps.length := by omega
    rw [zip_short hl0, lookup_out nq us]
    simp only [Option.isNone_none, if_true, pure_bind, List.drop_zero]
    have ez : ps.zip us ++ [(q, t)] = (ps ++ [q]).zip (us ++ [t]) := by
      rw [List.zip_append hl0.symm]; rfl
    rw [ez, zip_lookups nd (by simp [hl0])]
  · subst z
    have h2 : (((ps ++ [q]).zip us).lookup q).isSome = true := lookup_zip (by simp) (by rw [hle]; omega)
    have h3 : (((ps ++ [q]).zip us).lookup q).isNone = false := by
      cases e : ((ps ++ [q]).zip us).lookup q with
      | none => rw [e] at h2; cases h2
      | some v => rfl
    rw [h3]
    simp only [Bool.false_eq_true, if_false, pure_bind]
    have d0 : [t].drop 1 = ([] : List Value) := rfl
    rw [d0, List.append_nil, zip_lookups nd (by rw [hle]; omega)]
end L2.Pu
namespace L2.Pu
open PySem PySem.Spec PyProof.Rows
/-! ### what the head tells -/
def dvOf : PyData → He.Dv
  | .none => .non
  | .bool b => .bl b
  | .int i => .int i
  | .str x => .str x
  | _ => .non
theorem dv_vP {K : PySem.W.Frag} {p : PyData} (f : flatP p = true) : (dvOf p).v K = vP p := by
  cases p <;> first | rfl | cases f
theorem dvs_vP {K : PySem.W.Frag} : ∀ {ps : List PyData}, ps.all flatP = true → (ps.map dvOf).map (He.Dv.v K) = ps.map vP
  | [], _ => rfl
  | p :: ps, f => by
    rw [List.all_cons, Bool.and_eq_true] at f
    rw [List.map_cons, List.map_cons, List.map_cons, dv_vP f.1, dvs_vP f.2]
theorem rep_vP {K : PySem.W.Frag} {F : Addr → Prop} {H : Hp} {p : PyData} (f : flatP p = true) : Rep K F H p (vP p) := by
  cases p <;> first | (unfold Rep; rfl) | cases f
theorem reps_vP {K : PySem.W.Frag} {F : Addr → Prop} {H : Hp} : ∀ {ps : List PyData}, ps.all flatP = true → Reps K F H ps (ps.map vP)
  | [], _ => by
    show Reps K F H [] []
    unfold Reps; trivial
  | p :: ps, f => by
    rw [List.all_cons, Bool.and_eq_true] at f
    show Reps K F H (p :: ps) (vP p :: ps.map vP)
    unfold Reps
    exact ⟨rep_vP f.1, reps_vP f.2⟩
def DefT.hd (d : DefT) : He.DefD := { at_ := (d.x, none), name := d.x, qual := d.x, params := defArgs d.st, body := defBody d.st, scope := defScope d.st, dfl := d.ds.map dvOf, kwd := [] }
def argsC (a : Arguments) (ps : List Str) : Bool := match a with
  | ⟨[], as, none, [], [], none, _⟩ => decide (as.map (·.arg) = ps)
  | _ => false
def DefT.shape (d : DefT) : Bool := argsC (defArgs d.st) d.ps && decide d.ps.Nodup && decide (d.ds.length ≤ 1) && decide (d.ds.length ≤ d.ps.length) && d.ds.all flatP
def glbB (K : PySem.W.Frag) (q : Str × PyData) : Bool := match q.2 with
  | .int i => (match PySem.W.nsIn K mainGlobals q.1 with
    | some (some (.int j _)) => decide (j = i)
    | _ => false)
  | .str z => (match PySem.W.nsIn K mainGlobals q.1 with
    | some (some (.str y _)) => decide (y = z)
    | _ => false)
  | .tuple ps => He.eqO (PySem.W.nsIn K mainGlobals q.1) (some (some (.ref (He.ga K q.1)))) && (ps.all flatP && He.tupB K q.1 (ps.map dvOf))
  | _ => false
theorem glbB_ok {K : PySem.W.Frag} {h : Heap} {mg : Str → Option Value} (X : K.In h) (G : h.Ns mainGlobals mg) {x : Str} {p : PyData} (c : glbB K (x, p) = true) : GlbA K mg x p := by
  cases p with
  | int i =>
    obtain ⟨t, e⟩ := He.int_ok X G (x := x) (i := i) c
    exact ⟨_, .int i, e, ⟨t, rfl⟩, fun F H => rep_int⟩
  | str z =>
    obtain ⟨t, e⟩ := He.str_ok X G (x := x) (z := z) c
    exact ⟨_, .str z, e, ⟨t, rfl⟩, fun F H => by unfold Rep; rfl⟩
  | tuple ps =>
    have c : (He.eqO (PySem.W.nsIn K mainGlobals x) (some (some (.ref (He.ga K x)))) && (ps.all flatP && He.tupB K x (ps.map dvOf))) = true := c
    rw [Bool.and_eq_true, Bool.and_eq_true] at c
    refine ⟨_, .ref (He.ga K x), He.glo_ok X G (x := x) c.1, rfl, fun F H => ?_⟩
    unfold Rep
    refine ⟨He.ga K x, ps.map vP, rfl, ?_, reps_vP c.2.1⟩
    have q := He.tupB_ok c.2.2 (fun _ => none)
    rw [dvs_vP c.2.1] at q
    rcases q with (q | ⟨o, q⟩) | q
    · cases q
    · cases q
    · exact .inr q
  | _ => cases c
def wvFields : List Str := ["wires", "marked", "first_hidden", "carried", "phase", "made_ties", "hidden_bits", "marks_read"]
def wvMeths : List (Str × Str × Nat × List Str) := [("__init__", "Weaving.__init__", 0, ["self", "wires", "looks"]), ("swing", "Weaving.swing", 1, ["self", "wire"]), ("look", "Weaving.look", 2, ["self", "wire"]), ("where", "Weaving.where", 3, ["self", "mark", "row"]), ("row_of_two", "Weaving.row_of_two", 4, ["self", "row"]), ("take", "Weaving.take", 5, ["self", "row"]), ("ended", "Weaving.ended", 6, ["self"])]
def WvT.fa : List He.Fa := [.glo "Weaving", .cls "Weaving", .mkr "Weaving", .free "len", .free "range", .free "tuple"] ++ wvFields.map (.noat "Weaving") ++ (wvMeths.drop 1).map fun m => .meth "Weaving" m.1
def WvT.fd (q : WvT) : List He.DefD := wvMeths.map fun m => { at_ := ("Weaving", some m.1), name := m.1, qual := m.2.1, params := defArgs (q.ms m.2.2.1), body := defBody (q.ms m.2.2.1), scope := defScope (q.ms m.2.2.1), dfl := [], kwd := [] }
/-- its methods' parameters -/
def WvT.shape (q : WvT) : Bool := wvMeths.all fun m => argsC (defArgs (q.ms m.2.2.1)) m.2.2.2
def Prg.fa (P : Prg) : List He.Fa := (P.defs.map (fun d => He.Fa.glo d.x) ++ P.blts.map He.Fa.free) ++ (match P.wv with | none => [] | some _ => WvT.fa)
def Prg.fd (P : Prg) : List He.DefD := P.defs.map DefT.hd ++ (match P.wv with | none => [] | some q => q.fd)
theorem says_def {K : PySem.W.Frag} {fa : List He.Fa} {fn : List He.DefD} (c : He.SaysD fa fn K) {d : He.DefD} (h : d ∈ fn) : ∃ fd, FunD K d.name d.qual d.params d.body d.scope (d.dvs K) (d.kws K) (He.fAd K d.at_) fd := let ⟨i, hi⟩ := List.getElem?_of_mem h; c.def_ i hi
theorem says_fact {K : PySem.W.Frag} {fa : List He.Fa} {fn : List He.DefD} (c : He.SaysD fa fn K) {f : He.Fa} (h : f ∈ fa) : f.ok K = true := let ⟨i, hi⟩ := List.getElem?_of_mem h; c.fact i hi
/-- where a dict has rows of ints as keys -/
def Prg.nkC (P : Prg) (K : PySem.W.Frag) : Bool := (P.defs.all fun d => d.tn.isEmpty) || K.all noKey1
def Prg.obs (P : Prg) (K : PySem.W.Frag) : He.AlD := ((He.obsD P.fa P.fd K).1 && (P.glb.all (glbB K) && (P.cls.all (clOk K) && ((P.exs.all fun c => clOk K c && exOk K c) && P.nkC K))), (He.obsD P.fa P.fd K).2)
def Prg.obsG (P : Prg) (g : Addr → Option Obj) : He.AlD := P.obs (He.frG g (He.asD g 4))
def Prg.hook (P : Prg) : PySem.W.Hook where
  α := He.AlD
  obs := fun s => P.obsG s.heap.get?
  val := fun _ => He.valD P.fd
  says := fun _ h => ∃ K : PySem.W.Frag, K.In h ∧ P.obs K = He.valD P.fd
  of := fun _ _ e => ⟨_, He.frG_in, e⟩
  keeps := fun _ _ _ ⟨K, hK, c⟩ k => ⟨K, PySem.W.Frag.In.keeps hK k, c⟩
def Prg.ob (P : Prg) (s : PySem.W.SharedT) : He.AlD := P.obsG (HandSHeadRun.getT s)
theorem Prg.ob_eq (P : Prg) (s : PySem.W.SharedT) : P.ob s = P.hook.obs s.abs := by
  have e : HandSHeadRun.getT s = s.abs.heap.get? := funext (HandSHeadRun.getT_eq s)
  unfold Prg.ob
  rw [e]; rfl
theorem Prg.says {P : Prg} {K : PySem.W.Frag} (c : P.obs K = He.valD P.fd) : He.SaysD P.fa P.fd K ∧ P.glb.all (glbB K) = true ∧ P.cls.all (clOk K) = true ∧ (P.exs.all fun c => clOk K c && exOk K c) = true := by
  have c1 : ((He.obsD P.fa P.fd K).1 && (P.glb.all (glbB K) && (P.cls.all (clOk K) && ((P.exs.all fun c => clOk K c && exOk K c) && P.nkC K)))) = true := congrArg (fun z : He.AlD => z.1) c
  have c2 : (P.obs K).2 = (He.valD P.fd).2 := by rw [c]
  rw [Bool.and_eq_true, Bool.and_eq_true, Bool.and_eq_true, Bool.and_eq_true] at c1
  refine ⟨?_, c1.2.1, c1.2.2.1, c1.2.2.2.1⟩
  unfold He.SaysD
  exact Prod.ext c1.1 c2
theorem nk_says {P : Prg} {K : PySem.W.Frag} (c : P.obs K = He.valD P.fd) {d : DefT} (hd : d ∈ P.defs) (z : d.tn ≠ []) : K.all noKey1 = true := by
  have c1 : ((He.obsD P.fa P.fd K).1 && (P.glb.all (glbB K) && (P.cls.all (clOk K) && ((P.exs.all fun c => clOk K c && exOk K c) && P.nkC K)))) = true := congrArg (fun z : He.AlD => z.1) c
  rw [Bool.and_eq_true, Bool.and_eq_true, Bool.and_eq_true, Bool.and_eq_true] at c1
  have q := c1.2.2.2.2
  unfold Prg.nkC at q
  rw [Bool.or_eq_true] at q
  rcases q with q | q
  · have q := List.all_eq_true.mp q d hd
    exact absurd (List.isEmpty_iff.mp q) z
  · exact q
theorem argsC_ok {a : Arguments} {ps : List Str} (h : argsC a ps = true) : ∃ as df, a = ⟨[], as, none, [], [], none, df⟩ ∧ as.map (·.arg) = ps := by
  obtain ⟨a1, a2, a3, a4, a5, a6, a7⟩ := a
  unfold argsC at h
  split at h
  · rename_i e
    cases e
    exact ⟨_, _, rfl, of_decide_eq_true h⟩
  · cases h
theorem def_facts {P : Prg} {K : PySem.W.Frag} {h : Heap} {mg : Str → Option Value} (X : K.In h) (G : h.Ns mainGlobals mg) (c : P.obs K = He.valD P.fd) {d : DefT} (hd : d ∈ P.defs) (sh : d.shape = true) :
    ∃ fd, DefA K mg d (He.ga K d.x) fd := by
  obtain ⟨c1, _⟩ := Prg.says c
  obtain ⟨fd, F⟩ := says_def c1 (d := d.hd) (List.mem_append_left _ (List.mem_map.mpr ⟨d, hd, rfl⟩))
  have hg := says_fact c1 (f := .glo d.x) (List.mem_append_left _ (List.mem_append_left _ (List.mem_map.mpr ⟨d, hd, rfl⟩)))
  unfold DefT.shape at sh
  simp only [Bool.and_eq_true, decide_eq_true_eq] at sh
  obtain ⟨⟨⟨⟨s1, s2⟩, s3⟩, s4⟩, s5⟩ := sh
  have F : FunD K d.x d.x (defArgs d.st) (defBody d.st) (defScope d.st) ((d.ds.map dvOf).map (He.Dv.v K)) [] (He.ga K d.x) fd := F
  rw [dvs_vP s5] at F
  obtain ⟨as, df, ea, ep⟩ := argsC_ok s1
  refine ⟨fd, He.glo_ok X G hg, ⟨_, F⟩, fun j hj => ?_⟩
  rw [ea] at F
  cases eds : d.ds with
  | nil =>
    rw [eds] at F hj
    have hj0 : j = 0 := Nat.le_zero.mp hj
    subst hj0
    refine ⟨[], [], F.bindsN fun kV doc pm an cdv ct us hl => ?_, .nil, fun F H => by show Reps K F H [] []; unfold Reps; trivial⟩
    rw [← ep]
    exact bind_none (by rw [ep]; exact s2) (by rw [hl, ← ep, List.length_map])
  | cons t ts =>
    rw [eds] at F hj s3 s4 s5
    have ets : ts = [] := by
      have : ts.length + 1 ≤ 1 := s3
      exact List.length_eq_zero_iff.mp (by omega)
    subst ets
    have hps : d.ps ≠ [] := fun z => by rw [z] at s4; simp at s4
    have hsplit := List.dropLast_concat_getLast hps
    have hl1 : d.ps.length = d.ps.dropLast.length + 1 := by
      have := congrArg List.length hsplit
      simp only [List.length_append, List.length_cons, List.length_nil] at this
      omega
    have hj1 : j ≤ 1 := hj
    obtain ⟨ds, rv, hb⟩ := F.binds1 (ps := d.ps) (d.ps.dropLast.length + j) j (by simp) (by rw [hl1]; show d.ps.dropLast.length + j + (1 - j) = _; omega) fun T kV doc pm an cdv ct us its hl hi => by
      obtain ⟨v, rfl⟩ : ∃ v, its = [v] := by
        cases its with
        | nil => cases hi
        | cons v r => cases r with
          | nil => exact ⟨v, rfl⟩
          | cons _ _ => cases hi
      have e2 : as.map (·.arg) = d.ps.dropLast ++ [d.ps.getLast hps] := by rw [ep, hsplit]
      obtain ⟨k, k1, k2⟩ := bind_dflt (x := d.x) (qual := d.x) (as := as) (df := df) (body := defBody d.st) (sc := defScope d.st) (kV := kV) (doc := doc) (pm := pm) (an := an) (cdv := cdv) (ct := ct) (us := us) (t := v) (T := T) j e2 (by rw [hsplit]; exact s2) hj1 hl
      rw [hsplit] at k2
      exact ⟨k, k1, k2⟩
    refine ⟨ds, _, hb, rv, fun F H => ?_⟩
    have r := reps_vP (K := K) (F := F) (H := H) (ps := [t]) s5
    exact r.drop j
theorem binds_of {K : PySem.W.Frag} {x qual : Str} {a : Arguments} {body : List Stmt} {sc : Scope} {f : Addr} {fd : FuncData} {ps : List Str} (F : FunD K x qual a body sc [] [] f fd) (sh : argsC a ps = true) (nd : ps.Nodup) : Binds K fd ps [] := by
  obtain ⟨as, df, ea, ep⟩ := argsC_ok sh
  rw [ea] at F
  refine F.bindsN fun kV doc pm an cdv ct us hl => ?_
  rw [← ep]
  exact bind_none (by rw [ep]; exact nd) (by rw [hl, ← ep, List.length_map])
/-- what the class promises -/
theorem wv_facts {P : Prg} {K : PySem.W.Frag} {h : Heap} {mg : Str → Option Value} (X : K.In h) (G : h.Ns mainGlobals mg) (c : P.obs K = He.valD P.fd) {q : WvT} (hq : P.wv = some q) (sh : q.shape = true) : ∃ C f fd, WvF K mg q.ms C f fd := by
  obtain ⟨c1, _⟩ := Prg.says c
  have fa : ∀ f, f ∈ WvT.fa → f.ok K = true := fun f hf => says_fact c1 (by unfold Prg.fa; rw [hq]; exact List.mem_append_right _ hf)
  have fn : ∀ d, d ∈ q.fd → ∃ fd, FunD K d.name d.qual d.params d.body d.scope (d.dvs K) (d.kws K) (He.fAd K d.at_) fd := fun d hd => says_def c1 (by unfold Prg.fd; rw [hq]; exact List.mem_append_right _ hd)
  have shm : ∀ m, m ∈ wvMeths → argsC (defArgs (q.ms m.2.2.1)) m.2.2.2 = true := List.all_eq_true.mp sh
  have dm : ∀ m, m ∈ wvMeths → ∃ fd, FunD K m.1 m.2.1 (defArgs (q.ms m.2.2.1)) (defBody (q.ms m.2.2.1)) (defScope (q.ms m.2.2.1)) [] [] (He.ma K (He.ga K "Weaving") m.1) fd := fun m hm => fn _ (List.mem_map.mpr ⟨m, hm, rfl⟩)
  have n : ∀ f, f ∈ wvFields → NoAttr K (He.ga K "Weaving") f := fun f hf => He.noat_ok (fa _ (List.mem_append_left _ (List.mem_append_right _ (List.mem_map.mpr ⟨f, hf, rfl⟩))))
  have mt : ∀ m, m ∈ wvMeths.drop 1 → Meth K (He.ga K "Weaving") m.1 (He.ma K (He.ga K "Weaving") m.1) := fun m hm => He.meth_ok (fa _ (List.mem_append_right _ (List.mem_map.mpr ⟨m, hm, rfl⟩)))
  have fr : ∀ x, He.Fa.free x ∈ ([.glo "Weaving", .cls "Weaving", .mkr "Weaving", .free "len", .free "range", .free "tuple"] : List He.Fa) → mg x = none := fun x hx => He.free_ok X G (fa _ (List.mem_append_left _ (List.mem_append_left _ hx)))
  obtain ⟨e0, g0⟩ := dm _ (List.mem_cons_self ..)
  obtain ⟨e1, g1⟩ := dm ("swing", "Weaving.swing", 1, ["self", "wire"]) (by unfold wvMeths; simp)
  obtain ⟨e2, g2⟩ := dm ("look", "Weaving.look", 2, ["self", "wire"]) (by unfold wvMeths; simp)
  obtain ⟨e3, g3⟩ := dm ("where", "Weaving.where", 3, ["self", "mark", "row"]) (by unfold wvMeths; simp)
  obtain ⟨e4, g4⟩ := dm ("row_of_two", "Weaving.row_of_two", 4, ["self", "row"]) (by unfold wvMeths; simp)
  obtain ⟨e5, g5⟩ := dm ("take", "Weaving.take", 5, ["self", "row"]) (by unfold wvMeths; simp)
  obtain ⟨e6, g6⟩ := dm ("ended", "Weaving.ended", 6, ["self"]) (by unfold wvMeths; simp)
  refine ⟨He.ga K "Weaving", fun j => match j with
    | 0 => He.ma K (He.ga K "Weaving") "__init__"
    | 1 => He.ma K (He.ga K "Weaving") "swing"
    | 2 => He.ma K (He.ga K "Weaving") "look"
    | 3 => He.ma K (He.ga K "Weaving") "where"
    | 4 => He.ma K (He.ga K "Weaving") "row_of_two"
    | 5 => He.ma K (He.ga K "Weaving") "take"
    | _ => He.ma K (He.ga K "Weaving") "ended", fun j => match j with
    | 0 => e0
    | 1 => e1
    | 2 => e2
    | 3 => e3
    | 4 => e4
    | 5 => e5
    | _ => e6, {
    cl := { mgC := He.glo_ok X G (fa _ (by unfold WvT.fa; simp)), cl := He.cls_ok (fa _ (by unfold WvT.fa; simp)), n1 := n _ (by unfold wvFields; simp), n2 := n _ (by unfold wvFields; simp), n3 := n _ (by unfold wvFields; simp), n4 := n _ (by unfold wvFields; simp), n5 := n _ (by unfold wvFields; simp), n6 := n _ (by unfold wvFields; simp), n7 := n _ (by unfold wvFields; simp), n8 := n _ (by unfold wvFields; simp),
            len := fr _ (by simp), range := fr _ (by simp), tuple := fr _ (by simp) }
    mkr := He.mkr_ok (fa _ (by unfold WvT.fa; simp))
    m1 := mt ("swing", "Weaving.swing", 1, ["self", "wire"]) (by unfold wvMeths; simp)
    m2 := mt ("look", "Weaving.look", 2, ["self", "wire"]) (by unfold wvMeths; simp)
    m3 := mt ("where", "Weaving.where", 3, ["self", "mark", "row"]) (by unfold wvMeths; simp)
    m4 := mt ("row_of_two", "Weaving.row_of_two", 4, ["self", "row"]) (by unfold wvMeths; simp)
    m5 := mt ("take", "Weaving.take", 5, ["self", "row"]) (by unfold wvMeths; simp)
    m6 := mt ("ended", "Weaving.ended", 6, ["self"]) (by unfold wvMeths; simp)
    d0 := g0
    d1 := g1
    d2 := g2
    d3 := g3
    d4 := g4
    d5 := g5
    d6 := g6
    b0 := binds_of g0 (shm ("__init__", "Weaving.__init__", 0, ["self", "wires", "looks"]) (by unfold wvMeths; simp)) (by decide +kernel)
    b1 := binds_of g1 (shm ("swing", "Weaving.swing", 1, ["self", "wire"]) (by unfold wvMeths; simp)) (by decide +kernel)
    b2 := binds_of g2 (shm ("look", "Weaving.look", 2, ["self", "wire"]) (by unfold wvMeths; simp)) (by decide +kernel)
    b3 := binds_of g3 (shm ("where", "Weaving.where", 3, ["self", "mark", "row"]) (by unfold wvMeths; simp)) (by decide +kernel)
    b4 := binds_of g4 (shm ("row_of_two", "Weaving.row_of_two", 4, ["self", "row"]) (by unfold wvMeths; simp)) (by decide +kernel)
    b5 := binds_of g5 (shm ("take", "Weaving.take", 5, ["self", "row"]) (by unfold wvMeths; simp)) (by decide +kernel)
    b6 := binds_of g6 (shm ("ended", "Weaving.ended", 6, ["self"]) (by unfold wvMeths; simp)) (by decide +kernel) }⟩
/-- the class of a program, where it has one: the text of its methods is as it should be -/
def Prg.WvG (P : Prg) : Prop := ∀ q, P.wv = some q → q.shape = true ∧ WvP q.ms
theorem Prg.wvNone {P : Prg} (h : P.wv.isNone = true) : P.WvG := fun q e => by rw [e] at h; cases h
theorem wv_of {P : Prg} {K : PySem.W.Frag} {h : Heap} {mg : Str → Option Value} {pr : Program} {w : World} {base : Heap} (X : K.In h) (G : h.Ns mainGlobals mg) (c : P.obs K = He.valD P.fd) (wg : P.WvG) :
    ∀ q, P.wv = some q → ∀ (lvl : Nat) (sg ad ts : PF), (∃ f fd, FnAt pr w K mg base lvl "signed" ["phase", "one", "two"] sg f fd) → (∃ f fd, FnAt pr w K mg base lvl "added" ["turn", "turns", "bitset", "e"] ad f fd) → (∃ f fd, FnAt pr w K mg base lvl "ties_of" ["sets"] ts f fd) → WvOk pr w K mg base lvl sg ad ts := fun q e lvl sg ad ts ⟨f1, d1, h1⟩ ⟨f2, d2, h2⟩ ⟨f3, d3, h3⟩ => by
  obtain ⟨s, p⟩ := wg q e
  obtain ⟨C, f, fd, F⟩ := wv_facts X G c e s
  exact p pr w K mg base lvl C f fd sg ad ts f1 f2 f3 d1 d2 d3 F h1 h2 h3
/-- the law's def behind the head -/
theorem head_law {P : Prg} (g : P.good = true) (wg : P.WvG) (sh : P.defs.all DefT.shape = true) (wf n : Nat) {pr : Program} {w : World} {K : PySem.W.Frag} {h : Heap} {mg : Str → Option Value} {f : Addr} (X : K.In h) (G : h.Ns mainGlobals mg) (c : P.obs K = He.valD P.fd)
    {d : DefT} (hd : d ∈ P.defs) (hfa : mg d.x = some (.ref f)) (hp : d.ps = [("script" : Str)]) (hds : d.ds = []) (main : ∀ ns : List Int, ns.length ≤ 63 → call P.tab wf n d.id [.list (ns.map .int)] = .ok (.bool true)) :
    ∃ fd : FuncData, (∀ (s : Shared) (v : Value), BindsTo s fd ⟨[v], []⟩ [(("script" : Str), v)]) ∧ ∀ base : Heap, K.In base → base.Ns mainGlobals mg → FnOk pr w K mg base CX0 (3 * n) f fd [("script" : Str)] (spLaw K) := by
  have shd := List.all_eq_true.mp sh
  obtain ⟨fd, D⟩ := def_facts X G c hd (shd d hd)
  obtain ⟨c1, c2, c3', c4'⟩ := Prg.says c
  have cA : ∀ d, clOk K d = true → ClsA K mg d := fun d q => ⟨He.glo_ok X G (by unfold clOk at q; rw [Bool.and_eq_true] at q; exact q.1), q⟩
  have e := D.mg.symm.trans hfa
  cases e
  refine ⟨fd, fun s v => ?_, fun base _ _ => ?_⟩
  · obtain ⟨dvs, F⟩ := D.fn
    have s1 := shd d hd
    unfold DefT.shape at s1
    simp only [Bool.and_eq_true, decide_eq_true_eq] at s1
    obtain ⟨as, df, ea, ep⟩ := argsC_ok s1.1.1.1.1
    obtain ⟨oc, od, dV, kV, doc, pm, an, cdv, ct, osl, rfl, lk, hcd, hD, hK⟩ := F.ex
    have c3 := says_def c1 (d := d.hd) (List.mem_append_left _ (List.mem_map.mpr ⟨d, hd, rfl⟩))
    obtain ⟨fd2, F2⟩ := c3
    obtain ⟨oc2, od2, dV2, kV2, doc2, pm2, an2, cdv2, ct2, osl2, rfl, lk2, hcd2, hD2, hK2⟩ := F2.ex
    have e3 : K.lookup (He.ga K d.x) = _ := lk2
    rw [lk] at e3
    have hd0 : dV2 = .none := by
      rcases hD2 with ⟨_, z⟩ | ⟨z, _⟩
      · exact z
      · exact (z (by show (d.ds.map dvOf).map (He.Dv.v K) = []; rw [hds]; rfl)).elim
    simp only [Option.some.injEq, Obj.mk.injEq, Data.func.injEq, FuncData.mk.injEq] at e3
    have hdV : dV = .none := by
      have := e3.2.2.1.2.2.2.2.2.2.2.1
      rw [this, hd0]
    subst hdV
    rw [ea]
    have q := bind_none (x := d.x) (qual := d.x) (as := as) (df := df) (body := defBody d.st) (sc := defScope d.st) (kV := kV) (doc := doc) (pm := pm) (an := an) (cdv := cdv) (ct := ct) (us := [v]) (by rw [ep, hp]; decide) (by
      have := congrArg List.length ep
      rw [List.length_map, hp] at this
      exact this.symm)
    rw [ep, hp] at q
    exact .of_eq q
  · have r := law_ok g wf n (pr := pr) (w := w) (K := K) (mg := mg) (base := base) (fun d2 h2 => let ⟨fd, q⟩ := def_facts X G c h2 (shd d2 h2); ⟨_, fd, q⟩) (fun x p e => glbB_ok X G (List.all_eq_true.mp c2 (x, p) (PySem.mem_of_lookup e))) (fun x hx => ?_) (fun d2 h2 z => nk_says c h2 z) (fun d hd => cA d (List.all_eq_true.mp c3' d hd)) (fun d hd => by
      have q := List.all_eq_true.mp c4' d hd
      rw [Bool.and_eq_true] at q
      exact ⟨cA d q.1, q.2⟩) (wv_of X G c wg) hd D (by rw [hp]; rfl) (by
      have q := g
      unfold Prg.good at q
      rw [Bool.and_eq_true] at q
      have q := List.all_eq_true.mp q.2 d hd
      unfold DefT.hotC at q
      rw [hp] at q
      simpa using q) main
    · rw [hp] at r
      exact r
    · have hm : He.Fa.free x ∈ P.fa := by
        unfold Prg.fa
        exact List.mem_append_left _ (List.mem_append_right _ (List.mem_map.mpr ⟨x, hx, rfl⟩))
      obtain ⟨i, hi⟩ := List.getElem?_of_mem hm
      exact He.free_ok X G (c1.fact i hi)
end L2.Pu
namespace L2.Pu.Law
open PySem PySem.Spec PyProof.Rows
def top (i : Nat) : Stmt := PySem.Challenge.pw_wavewires_k55_settled_alike.main.body.getD i (.Pass ⟨0, 0, 0, 0⟩)
def d_put_in : DefT := { x := "put_in", id := 78, st := top 4, N := ["turns", "bitset", "e", "made", "old", "pair", "new"], ps := ["turns", "bitset", "e"], ds := [], fr := false }
def d_added : DefT := { x := "added", id := 1, st := top 5, N := ["turn", "turns", "bitset", "e"], ps := ["turn", "turns", "bitset", "e"], ds := [], fr := false }
def d_bits_in : DefT := { x := "bits_in", id := 14, st := top 8, N := ["bitset", "bit"], ps := ["bitset"], ds := [], fr := false }
def d_parts_of : DefT := { x := "parts_of", id := 73, st := top 9, N := ["bits", "parts", "k", "one", "j", "i"], ps := ["bits"], ds := [], fr := false }
def d_form_of : DefT := { x := "form_of", id := 38, st := top 10, N := ["turns", "counts", "bitset", "e", "part"], ps := ["turns"], ds := [], fr := false, tn := ["counts"] }
def d_lead_of : DefT := { x := "lead_of", id := 55, st := top 11, N := ["bitset"], ps := ["bitset"], ds := [], fr := false }
def d_without_lead : DefT := { x := "without_lead", id := 134, st := top 12, N := ["bitset", "tie"], ps := ["bitset", "tie"], ds := [], fr := false }
def d_reduced : DefT := { x := "reduced", id := 82, st := top 13, N := ["ties", "kept", "tie", "other"], ps := ["ties"], ds := [], fr := false }
def d_settled_sum : DefT := { x := "settled_sum", id := 89, st := top 14, N := ["one", "kept", "new", "shape", "halves", "turn", "turns", "ties", "hidden", "bitset", "e", "tie"], ps := ["one"], ds := [], fr := false }
def d__law_added : DefT := { x := "_law_added", id := 1001, st := top 16, N := ["turn", "counts", "bitset", "e"], ps := ["turn", "counts", "bitset", "e"], ds := [], fr := false, dn := ["counts"], rv := true }
def d__law_sum : DefT := { x := "_law_sum", id := 1141, st := top 17, N := ["cells", "shape", "halves", "ones", "size", "turn", "counts", "ties", "cell", "turns", "bitset"], ps := ["cells", "shape", "halves", "ones"], ds := [], fr := false, dn := ["counts"] }
def d__law_value : DefT := { x := "_law_value", id := 1165, st := top 18, N := ["bitset", "bits", "both", "many"], ps := ["bitset", "bits"], ds := [], fr := false }
def d__law_rest : DefT := { x := "_law_rest", id := 1103, st := top 19, N := ["one", "bits", "tie", "rest", "bitset", "e"], ps := ["one", "bits"], ds := [], fr := false }
def d__law_tied : DefT := { x := "_law_tied", id := 1149, st := top 20, N := ["ties", "cell", "made", "at", "other"], ps := ["ties", "cell"], ds := [], fr := false }
def d__law_exchanged : DefT := { x := "_law_exchanged", id := 1038, st := top 21, N := ["one", "cell", "size", "counts", "turn", "turns", "bitset", "e", "pair", "tie", "first", "second"], ps := ["one", "cell", "size"], ds := [], fr := false, dn := ["counts"] }
def d__law_shifted : DefT := { x := "_law_shifted", id := 1126, st := top 22, N := ["told", "e"], ps := ["told", "e"], ds := [], fr := false }
def d_law : DefT := { x := "law", id := 1178, st := top 23, N := ["script", "first", "shape", "size", "cut", "one", "other", "cell", "told", "e", "turned_more", "counts", "turn", "turns", "bitset", "old"], ps := ["script"], ds := [], fr := false, dn := ["counts"] }
def prg : Prg := { defs := [d_put_in, d_added, d_bits_in, d_parts_of, d_form_of, d_lead_of, d_without_lead, d_reduced, d_settled_sum, d__law_added, d__law_sum, d__law_value, d__law_rest, d__law_tied, d__law_exchanged, d__law_shifted, d_law], glb := [("WORTHS", .tuple [.int 0, .int 1, .int 6, .int 4])], blts := ["ValueError", "len", "range", "list", "tuple", "sorted", "set", "enumerate"], cls := ["WaveError", "StillHidden"], exs := ["StillHidden"] }
theorem prg_good : prg.good = true := by decide +kernel
theorem prg_wv : prg.WvG := Prg.wvNone rfl
theorem prg_shape : prg.defs.all DefT.shape = true := by decide +kernel
abbrev rowR : PySem.W.OpenRow := PySem.W.OpenLaw.row PySem.Challenge.rw_wavewires_k55_settled_alike
theorem head_run (w : World) : HandSHeadRun.RunEq rowR (PySem.W.view rowR.prog [23]) prg.hook prg.ob 6000 ["WaveError", "StillHidden", "put_in", "added", "WORTHS", "bits_in", "parts_of", "form_of", "lead_of", "without_lead", "reduced", "settled_sum", "_law_added", "_law_sum", "_law_value", "_law_rest", "_law_tied", "_law_exchanged", "_law_shifted"] w := by
  intro os
  kernel_rfl
end L2.Pu.Law
namespace L2.Pu
open PySem PySem.Spec PyProof.Rows
/-! ### the pure evaluator at work -/
/-- a def's run at its arguments -/
def run (Φ : Nat → List PyData → R PyData) (w : Nat) (n : Nat) (b : List S) (as : List PyData) : R PyData := endV (evSs Φ w b (startP n as))
@[simp] theorem bind_ok {α β : Type} (a : α) (k : α → R β) : (R.ok a).bind k = k a := rfl
@[simp] theorem guard_true {α : Type} (r : R α) : guardR true r = r := rfl
theorem guard_of {α : Type} {c : Bool} (r : R α) (h : c = true) : guardR c r = r := by rw [h]; rfl
end L2.Pu
namespace L2.Pu
open PySem PySem.Spec PyProof.Rows
/-! ### rows for the evaluator, one a form -/
def varR : Option Sl → R PyData
  | some (some (_, p)) => .ok p
  | _ => .bad
def ownR {α : Type} (s : Option Sl) (k : List PyData → R α) : R α := match s with
  | some (some (true, .list xs)) => k xs
  | _ => .bad
theorem varR_s {b : Bool} {p : PyData} : varR (some (some (b, p))) = .ok p := rfl
theorem ownR_s {α : Type} {xs : List PyData} {k : List PyData → R α} : ownR (some (some (true, .list xs))) k = k xs := rfl
def seqF (r : R Fl) (k : PEnv → R Fl) : R Fl := r.bind fun fl => match fl with
  | .nx ρ => k ρ
  | .rt p => .ok (.rt p)
  | .bk ρ => .ok (.bk ρ)
  | .ct ρ => .ok (.ct ρ)
section
variable {Φ : Nat → List PyData → R PyData} {w : Nat} {ρ : PEnv}
theorem evSs_n : evSs Φ w [] ρ = .ok (.nx ρ) := rfl
theorem evSs_c {s : S} {ss : List S} : evSs Φ w (s :: ss) ρ = seqF (evS Φ w s ρ) (evSs Φ w ss) := rfl
theorem seqF_nx {k : PEnv → R Fl} : seqF (.ok (.nx ρ)) k = k ρ := rfl
theorem seqF_rt {p : PyData} {k : PEnv → R Fl} : seqF (.ok (.rt p)) k = .ok (.rt p) := rfl
theorem seqF_bk {k : PEnv → R Fl} : seqF (.ok (.bk ρ)) k = .ok (.bk ρ) := rfl
theorem seqF_ct {k : PEnv → R Fl} : seqF (.ok (.ct ρ)) k = .ok (.ct ρ) := rfl
theorem seqF_ite {c : Prop} [Decidable c] {a b : R Fl} {k : PEnv → R Fl} : seqF (if c then a else b) k = if c then seqF a k else seqF b k := by split <;> rfl
theorem seqF_bind {α : Type} {r : R α} {f : α → R Fl} {k : PEnv → R Fl} : seqF (r.bind f) k = r.bind fun a => seqF (f a) k := by cases r <;> rfl
theorem seqF_guard {c : Bool} {r : R Fl} {k : PEnv → R Fl} : seqF (guardR c r) k = guardR c (seqF r k) := by cases c <;> rfl
theorem bind_ite {α β : Type} {c : Prop} [Decidable c] {a b : R α} {k : α → R β} : (if c then a else b).bind k = if c then a.bind k else b.bind k := by split <;> rfl
theorem bind_guard {α β : Type} {c : Bool} {r : R α} {k : α → R β} : (guardR c r).bind k = guardR c (r.bind k) := by cases c <;> rfl
theorem endV_rt {p : PyData} : endV (.ok (.rt p)) = .ok p := rfl
theorem endV_nx : endV (.ok (.nx ρ)) = .ok .none := rfl
theorem endV_ite {c : Prop} [Decidable c] {a b : R Fl} : endV (if c then a else b) = if c then endV a else endV b := by split <;> rfl
theorem endV_guard {c : Bool} {r : R Fl} : endV (guardR c r) = guardR c (endV r) := by cases c <;> rfl
theorem x_asg {tg : Tg} {e : E} : evS Φ w (.asg tg e) ρ = (evE Φ e ρ).bind fun p => (setTg tg (fresh e) p (share (if noList p = true then [] else lk e) ρ)).bind fun ρ1 => .ok (.nx ρ1) := rfl
theorem x_app {i : Nat} {e : E} : evS Φ w (.app i e) ρ = ownR ρ[i]? fun xs => (evE Φ e ρ).bind fun p => guardR (fitsN xs.length && (noList p || !(lk e).contains i)) (.ok (.nx ((share (if noList p = true then [] else lk e) ρ).set i (some (true, .list (xs ++ [p])))))) := rfl
theorem x_sub {i : Nat} {k e : E} : evS Φ w (.sub i k e) ρ = (evE Φ e ρ).bind fun p => ownR ρ[i]? fun xs => (evE Φ k ρ).bind fun kv => (intV kv).bind fun k => (optR (ixN xs.length k)).bind fun j => guardR (noList p || !(lk e).contains i) (.ok (.nx ((share (if noList p = true then [] else lk e) ρ).set i (some (true, .list (xs.set j p)))))) := rfl
theorem x_drop {e : E} : evS Φ w (.drop e) ρ = (evE Φ e ρ).bind fun _ => .ok (.nx ρ) := rfl
theorem x_ife {c : E} {a b : List S} : evS Φ w (.ife c a b) ρ = (evE Φ c ρ).bind fun x => (boolV x).bind fun t => if t = true then evSs Φ w a ρ else evSs Φ w b ρ := rfl
theorem x_loop {tg : Tg} {s : Src} {es : List E} {b : List S} : evS Φ w (.loop tg s es b) ρ = (evEs Φ es ρ).bind fun ps => (srcItems s ps).bind fun items => forGo (evSs Φ w b) tg items (share (lks es) ρ) := rfl
theorem x_ret {e : E} : evS Φ w (.ret false e) ρ = (evE Φ e ρ).bind fun p => .ok (.rt p) := rfl
theorem x_brk : evS Φ w .brk ρ = .ok (.bk ρ) := rfl
theorem x_cnt : evS Φ w .cnt ρ = .ok (.ct ρ) := rfl
theorem x_pass : evS Φ w .pass ρ = .ok (.nx ρ) := rfl
theorem e_var {i : Nat} : evE Φ (.var i) ρ = varR ρ[i]? := rfl
theorem e_dget {a k : E} : evE Φ (.dget a k) ρ = (evE Φ a ρ).bind fun x => (evE Φ k ρ).bind fun y => (dictV x).bind fun l => (intV y).bind fun k => dgetV l k := rfl
theorem e_dgt2 {a k d : E} : evE Φ (.dgt2 a k d) ρ = (evE Φ a ρ).bind fun x => (dictV x).bind fun l => (evE Φ k ρ).bind fun y => (intV y).bind fun k => (evE Φ d ρ).bind fun z => dgt2V l k z := rfl
theorem e_dsrt {a : E} : evE Φ (.dsrt a) ρ = (evE Φ a ρ).bind fun x => (dictV x).bind dsrtV := rfl
theorem e_cst {p : PyData} : evE Φ (.cst p) ρ = .ok p := rfl
theorem e_bin {o : Op} {a b : E} : evE Φ (.bin o a b) ρ = (evE Φ a ρ).bind fun x => (evE Φ b ρ).bind fun y => opV o x y := rfl
theorem e_neg {a : E} : evE Φ (.neg a) ρ = (evE Φ a ρ).bind negV := rfl
theorem e_nt {a : E} : evE Φ (.nt a) ρ = (evE Φ a ρ).bind notV := rfl
theorem e_conj {a b : E} : evE Φ (.conj a b) ρ = (evE Φ a ρ).bind fun x => (boolV x).bind fun c => if c = true then evE Φ b ρ else .ok (.bool false) := rfl
theorem e_disj {a b : E} : evE Φ (.disj a b) ρ = (evE Φ a ρ).bind fun x => (boolV x).bind fun c => if c = true then .ok (.bool true) else evE Φ b ρ := rfl
theorem e_ife {c a b : E} : evE Φ (.ife c a b) ρ = (evE Φ c ρ).bind fun x => (boolV x).bind fun c => if c = true then evE Φ a ρ else evE Φ b ρ := rfl
theorem e_cmp {o : Cm} {a b : E} : evE Φ (.cmp o a b) ρ = (evE Φ a ρ).bind fun x => (evE Φ b ρ).bind fun y => cmV o x y := rfl
theorem e_tup {es : List E} : evE Φ (.tup es) ρ = (evEs Φ es ρ).bind fun ps => .ok (.tuple ps) := rfl
theorem e_lst {es : List E} : evE Φ (.lst es) ρ = (evEs Φ es ρ).bind fun ps => .ok (.list ps) := rfl
theorem e_rep {es : List E} {n : E} : evE Φ (.rep es n) ρ = (evEs Φ es ρ).bind fun ps => (evE Φ n ρ).bind fun y => (intV y).bind fun k => guardR (decide (-(2 ^ 63) ≤ k) && decide (k < 2 ^ 63) && fitsN (ps.length * k.toNat)) (.ok (.list (List.replicate k.toNat ps).flatten)) := rfl
theorem e_idx {a i : E} : evE Φ (.idx a i) ρ = (evE Φ a ρ).bind fun x => (evE Φ i ρ).bind fun y => idxV x y := rfl
theorem e_sl {a : E} {lo hi : Option E} : evE Φ (.sl a lo hi) ρ = (evE Φ a ρ).bind fun x => (evO Φ lo ρ).bind fun l => (evO Φ hi ρ).bind fun h => sliceV x l h := rfl
theorem e_call {f : Nat} {fr : Bool} {es : List E} {ds : List PyData} : evE Φ (.call f fr es ds) ρ = (evEs Φ es ρ).bind fun ps => Φ f (ps ++ ds) := rfl
theorem e_bi {b : Bi} {es : List E} : evE Φ (.bi b es) ρ = (evEs Φ es ρ).bind fun ps => biV b ps := rfl
theorem e_sset {a : E} : evE Φ (.sset a) ρ = (evE Φ a ρ).bind ssetV := rfl
theorem e_lrev {a : E} : evE Φ (.lrev a) ρ = (evE Φ a ρ).bind fun x => (listV x).bind fun xs => .ok (.list xs.reverse) := rfl
theorem e_lenN {a : E} : evE Φ (.lenN a) ρ = (evE Φ a ρ).bind fun x => biV .len [x] := rfl
theorem e_isi {ty : String} {e : E} : evE Φ (.isi ty e) ρ = (evE Φ e ρ).bind (isiV ty) := rfl
theorem e_comp {own : List Nat} {tg : Tg} {s : Src} {es : List E} {c : Option E} {elt : E} : evE Φ (.comp own tg s es c elt) ρ = (evEs Φ es ρ).bind fun ps => (srcItems s ps).bind fun items =>
    guardR (own.all (notOwn ρ) && fitsN items.length) ((compGo (evE Φ elt) (evC Φ c) tg (wipeP own (share (lks es) ρ)) items).calm.bind fun ys => .ok (.list ys)) := rfl
theorem es_nil : evEs Φ [] ρ = .ok [] := rfl
theorem es_cons {e : E} {es : List E} : evEs Φ (e :: es) ρ = (evE Φ e ρ).bind fun p => (evEs Φ es ρ).bind fun ps => .ok (p :: ps) := rfl
theorem eo_none : evO Φ none ρ = .ok none := rfl
theorem eo_some {e : E} : evO Φ (some e) ρ = (evE Φ e ρ).bind fun x => (intV x).bind fun i => .ok (some i) := rfl
theorem ec_none : evC Φ none ρ = .ok true := rfl
theorem ec_some {e : E} : evC Φ (some e) ρ = (evE Φ e ρ).bind boolV := rfl
end
theorem isi_int_int {i : Int} : isiV "int" (.int i) = .ok (.bool true) := by rfl
theorem isi_int_bool {i : Int} : isiV "bool" (.int i) = .ok (.bool false) := by rfl
theorem isi_tup_tup {ps : List PyData} : isiV "tuple" (.tuple ps) = .ok (.bool true) := by rfl
theorem isi_tup_int {ps : List PyData} : isiV "int" (.tuple ps) = .ok (.bool false) := by rfl
theorem isi_bool_bool {b : Bool} : isiV "bool" (.bool b) = .ok (.bool true) := by rfl
theorem isi_bool_int {b : Bool} : isiV "int" (.bool b) = .ok (.bool true) := by rfl
theorem isi_lst_lst {ps : List PyData} : isiV "list" (.list ps) = .ok (.bool true) := by rfl
theorem isi_str_str {x : Str} : isiV "str" (.str x) = .ok (.bool true) := by rfl
theorem isi_tup_lst {ps : List PyData} : isiV "list" (.tuple ps) = .ok (.bool false) := by rfl
theorem isi_lst_tup {ps : List PyData} : isiV "tuple" (.list ps) = .ok (.bool false) := by rfl
theorem boolV_b {b : Bool} : boolV (.bool b) = .ok b := rfl
theorem intV_i {i : Int} : intV (.int i) = .ok i := rfl
theorem notV_b {b : Bool} : notV (.bool b) = .ok (.bool (!b)) := rfl
theorem negV_i {i : Int} : negV (.int i) = .ok (.int (-i)) := rfl
theorem op_ii {o : Op} {i j : Int} : opV o (.int i) (.int j) = opI2 o i j := rfl
theorem op_i_add {i j : Int} : opI2 .add i j = .ok (.int (i + j)) := rfl
theorem op_i_sub {i j : Int} : opI2 .sub i j = .ok (.int (i - j)) := rfl
theorem op_i_mul {i j : Int} : opI2 .mul i j = guardR (mulOk i j) (.ok (.int (i * j))) := rfl
theorem op_i_fdiv {i j : Int} : opI2 .fdiv i j = guardR (decide (0 < j) && decide (j.natAbs.log2 < 9000)) (.ok (.int (i / j))) := rfl
theorem op_i_mod {i j : Int} : opI2 .mod i j = guardR (decide (0 < j)) (.ok (.int (i % j))) := rfl
theorem op_i_pow {i j : Int} : opI2 .pow i j = guardR (decide (0 ≤ j) && decide (j ≤ 1000000) && decide (i.natAbs < 2 ^ 64)) (.ok (.int (i ^ j.toNat))) := rfl
theorem op_i_shl {i j : Int} : opI2 .shl i j = guardR (shlOk i j) (.ok (.int (i * 2 ^ j.toNat))) := rfl
theorem op_i_shr {i j : Int} : opI2 .shr i j = guardR (decide (0 ≤ j)) (.ok (.int (i / 2 ^ j.toNat))) := rfl
theorem op_i_band {i j : Int} : opI2 .band i j = .ok (.int (Builtin.bitAnd i j)) := rfl
theorem op_i_bor {i j : Int} : opI2 .bor i j = .ok (.int (Builtin.bitOr i j)) := rfl
theorem op_i_bxor {i j : Int} : opI2 .bxor i j = .ok (.int (Builtin.bitXor i j)) := rfl
theorem op_tt {xs ys : List PyData} : opV .add (.tuple xs) (.tuple ys) = guardR (fitsN (xs.length + ys.length)) (.ok (.tuple (xs ++ ys))) := rfl
theorem op_ll {xs ys : List PyData} : opV .add (.list xs) (.list ys) = guardR (fitsN (xs.length + ys.length)) (.ok (.list (xs ++ ys))) := rfl
theorem cm_eq_ii {i j : Int} : cmV .eq (.int i) (.int j) = .ok (.bool (decide (i = j))) := rfl
theorem cm_ne_ii {i j : Int} : cmV .ne (.int i) (.int j) = .ok (.bool (!decide (i = j))) := rfl
theorem cm_eq_ss {i j : Str} : cmV .eq (.str i) (.str j) = .ok (.bool (decide (i = j))) := rfl
theorem cm_ne_ss {i j : Str} : cmV .ne (.str i) (.str j) = .ok (.bool (!decide (i = j))) := rfl
theorem cm_lt {i j : Int} : cmV .lt (.int i) (.int j) = .ok (.bool (decide (i < j))) := rfl
theorem cm_le {i j : Int} : cmV .le (.int i) (.int j) = .ok (.bool (decide (i ≤ j))) := rfl
theorem cm_gt {i j : Int} : cmV .gt (.int i) (.int j) = .ok (.bool (decide (j < i))) := rfl
theorem cm_ge {i j : Int} : cmV .ge (.int i) (.int j) = .ok (.bool (decide (j ≤ i))) := rfl
theorem cm_eq_tt {xs ys : List PyData} : cmV .eq (.tuple xs) (.tuple ys) = guardR (SeqAt.shaped (.tuple xs) && SeqAt.shaped (.tuple ys)) (.ok (.bool (PyData.eqvAll xs ys))) := by
  show (eqV2 (.tuple xs) (.tuple ys)).bind _ = _
  have e : PyData.eqv (.tuple xs) (.tuple ys) = PyData.eqvAll xs ys := by unfold PyData.eqv; rfl
  show (guardR _ (.ok (PyData.eqv (.tuple xs) (.tuple ys)))).bind _ = _
  rw [e, bind_guard]; rfl
theorem cm_ne_tt {xs ys : List PyData} : cmV .ne (.tuple xs) (.tuple ys) = guardR (SeqAt.shaped (.tuple xs) && SeqAt.shaped (.tuple ys)) (.ok (.bool (!PyData.eqvAll xs ys))) := by
  have e : PyData.eqv (.tuple xs) (.tuple ys) = PyData.eqvAll xs ys := by unfold PyData.eqv; rfl
  show (guardR _ (.ok (PyData.eqv (.tuple xs) (.tuple ys)))).bind _ = _
  rw [e, bind_guard]; rfl
theorem cm_eq_ll {xs ys : List PyData} : cmV .eq (.list xs) (.list ys) = guardR (SeqAt.shaped (.list xs) && SeqAt.shaped (.list ys)) (.ok (.bool (PyData.eqvAll xs ys))) := by
  have e : PyData.eqv (.list xs) (.list ys) = PyData.eqvAll xs ys := by unfold PyData.eqv; rfl
  show (guardR _ (.ok (PyData.eqv (.list xs) (.list ys)))).bind _ = _
  rw [e, bind_guard]; rfl
theorem cm_ne_ll {xs ys : List PyData} : cmV .ne (.list xs) (.list ys) = guardR (SeqAt.shaped (.list xs) && SeqAt.shaped (.list ys)) (.ok (.bool (!PyData.eqvAll xs ys))) := by
  have e : PyData.eqv (.list xs) (.list ys) = PyData.eqvAll xs ys := by unfold PyData.eqv; rfl
  show (guardR _ (.ok (PyData.eqv (.list xs) (.list ys)))).bind _ = _
  rw [e, bind_guard]; rfl
theorem cm_isn {x : PyData} : cmV .isn x .none = .ok (.bool (isNone x)) := rfl
theorem cm_notn {x : PyData} : cmV .notn x .none = .ok (.bool (!isNone x)) := rfl
theorem bi_len_l {xs : List PyData} : biV .len [.list xs] = .ok (.int xs.length) := rfl
theorem bi_len_t {xs : List PyData} : biV .len [.tuple xs] = .ok (.int xs.length) := rfl
theorem bi_list_l {xs : List PyData} : biV .list1 [.list xs] = .ok (.list xs) := rfl
theorem bi_list_t {xs : List PyData} : biV .list1 [.tuple xs] = .ok (.list xs) := rfl
theorem bi_tup_l {xs : List PyData} : biV .tuple1 [.list xs] = .ok (.tuple xs) := rfl
theorem bi_tup_t {xs : List PyData} : biV .tuple1 [.tuple xs] = .ok (.tuple xs) := rfl
theorem bi_max {i j : Int} : biV .max2 [.int i, .int j] = .ok (.int (if j > i then j else i)) := rfl
theorem bi_min {i j : Int} : biV .min2 [.int i, .int j] = .ok (.int (if j < i then j else i)) := rfl
theorem bi_int_i {i : Int} : biV .int1 [.int i] = .ok (.int i) := rfl
theorem bi_int_b {b : Bool} : biV .int1 [.bool b] = .ok (.int (if b then 1 else 0)) := rfl
theorem ix_t {xs : List PyData} {i : Int} : idxV (.tuple xs) (.int i) = optR (atI xs i) := rfl
theorem ix_l {xs : List PyData} {i : Int} : idxV (.list xs) (.int i) = optR (atI xs i) := rfl
theorem sl_t {xs : List PyData} {l h : Option Int} : sliceV (.tuple xs) l h = .ok (.tuple (cutP xs l h)) := rfl
theorem sl_l {xs : List PyData} {l h : Option Int} : sliceV (.list xs) l h = .ok (.list (cutP xs l h)) := rfl
theorem at_0 {α : Type} {a : α} {l : List α} : atI (a :: l) 0 = some a := by
  unfold atI ixN
  rw [if_pos (by omega), if_pos (by simp)]; rfl
theorem at_1 {α : Type} {a b : α} {l : List α} : atI (a :: b :: l) 1 = some b := by
  unfold atI ixN
  rw [if_pos (by omega), if_pos (by simp only [List.length_cons]; omega)]; rfl
theorem at_2 {α : Type} {a b c : α} {l : List α} : atI (a :: b :: c :: l) 2 = some c := by
  unfold atI ixN
  rw [if_pos (by omega), if_pos (by simp only [List.length_cons]; omega)]; rfl
theorem at_3 {α : Type} {a b c d : α} {l : List α} : atI (a :: b :: c :: d :: l) 3 = some d := by
  unfold atI ixN
  rw [if_pos (by omega), if_pos (by simp only [List.length_cons]; omega)]; rfl
theorem at_4 {α : Type} {a b c d e : α} {l : List α} : atI (a :: b :: c :: d :: e :: l) 4 = some e := by
  unfold atI ixN
  rw [if_pos (by omega), if_pos (by simp only [List.length_cons]; omega)]; rfl
theorem at_5 {α : Type} {a b c d e f : α} {l : List α} : atI (a :: b :: c :: d :: e :: f :: l) 5 = some f := by
  unfold atI ixN
  rw [if_pos (by omega), if_pos (by simp only [List.length_cons]; omega)]; rfl
theorem optR_some {α : Type} {a : α} : optR (some a) = .ok a := rfl
theorem cut_to {xs : List PyData} (n : Nat) : cutP xs none (some (n : Int)) = xs.take n := by
  have e : HT.sIx xs.length xs.length (some (n : Int)) = min n xs.length := HT.sIx_nat xs.length xs.length n
  unfold cutP
  rw [HT.sIx_none, e]
  simp only [Nat.sub_zero, List.drop_zero]
  by_cases h : n ≤ xs.length
  · rw [Nat.min_eq_left h]
  · rw [Nat.min_eq_right (by omega), List.take_of_length_le (Nat.le_refl _), List.take_of_length_le (by omega)]
theorem cut_from {xs : List PyData} (n : Nat) : cutP xs (some (n : Int)) none = xs.drop n := by
  have e : HT.sIx xs.length 0 (some (n : Int)) = min n xs.length := HT.sIx_nat xs.length 0 n
  unfold cutP
  rw [HT.sIx_none, e]
  by_cases h : n ≤ xs.length
  · rw [Nat.min_eq_left h, List.take_of_length_le (by rw [List.length_drop]; omega)]
  · rw [Nat.min_eq_right (by omega), List.drop_of_length_le (Nat.le_refl _), List.drop_of_length_le (by omega)]
    simp
theorem src_t {xs : List PyData} : srcItems .seq [.tuple xs] = .ok xs := rfl
theorem src_l {xs : List PyData} : srcItems .seq [.list xs] = .ok xs := rfl
theorem src_r1 {j : Int} : srcItems .rng1 [.int j] = guardR (ends62 j) (.ok (rangeP 0 j.toNat 1)) := rfl
theorem src_r2 {i j : Int} : srcItems .rng2 [.int i, .int j] = guardR (ends62 i && ends62 j) (.ok (rangeP i (j - i).toNat 1)) := rfl
theorem src_r3 {i j c : Int} : srcItems .rng3 [.int i, .int j, .int c] = guardR (rng3Ok i j c) (.ok (rangeP i (Builtin.Range.rangeSize i j c).toNat c)) := rfl
theorem set_nm {i : Nat} {fr : Bool} {p : PyData} {ρ : PEnv} : setTg (.nm i) fr p ρ = .ok (ρ.set i (some (fr && isListP p, p))) := rfl
theorem set_tp {is : List Nat} {fr : Bool} {ps : List PyData} {ρ : PEnv} : setTg (.tp is) fr (.tuple ps) ρ = setAll is ps ρ := rfl
theorem setA_nil {ρ : PEnv} : setAll [] [] ρ = .ok ρ := rfl
theorem setA_cons {i : Nat} {is : List Nat} {p : PyData} {ps : List PyData} {ρ : PEnv} : setAll (i :: is) (p :: ps) ρ = setAll is ps (ρ.set i (some (false, p))) := rfl
theorem share_nil {ρ : PEnv} : share [] ρ = ρ := rfl
theorem nl_int {i : Int} : noList (.int i) = true := rfl
theorem nl_bool {i : Bool} : noList (.bool i) = true := rfl
theorem nl_str {i : Str} : noList (.str i) = true := rfl
theorem nl_none : noList .none = true := rfl
theorem nl_tup {ps : List PyData} : noList (.tuple ps) = noLists ps := rfl
theorem nls_nil : noLists [] = true := rfl
theorem nls_cons {p : PyData} {ps : List PyData} : noLists (p :: ps) = (noList p && noLists ps) := rfl
theorem nl_list {ps : List PyData} : noList (.list ps) = false := rfl
theorem il_list {ps : List PyData} : isListP (.list ps) = true := rfl
theorem il_tup {ps : List PyData} : isListP (.tuple ps) = false := rfl
theorem il_int {i : Int} : isListP (.int i) = false := rfl
theorem il_bool {i : Bool} : isListP (.bool i) = false := rfl
theorem il_str {i : Str} : isListP (.str i) = false := rfl
theorem il_none : isListP .none = false := rfl
theorem ite_tt {α : Type} {a b : α} : (if true = true then a else b) = a := rfl
theorem ite_ff {α : Type} {a b : α} : (if false = true then a else b) = b := rfl
theorem calm_ok {α : Type} {a : α} : (R.ok a).calm = .ok a := rfl
theorem fits_of {n : Nat} (h : n ≤ 16000000) : fitsN n = true := decide_eq_true h
theorem ends_of {i : Int} (h1 : -1000000000000 ≤ i) (h2 : i ≤ 1000000000000) : ends62 i = true := by
  unfold ends62
  rw [Bool.and_eq_true]
  exact ⟨decide_eq_true (by omega), decide_eq_true (by omega)⟩
/-! ### guards that hold -/
theorem g_mod {α : Type} {j : Int} {r : R α} (h : 0 < j) : guardR (decide (0 < j)) r = r := guard_of r (decide_eq_true h)
theorem g_shr {α : Type} {j : Int} {r : R α} (h : 0 ≤ j) : guardR (decide (0 ≤ j)) r = r := guard_of r (decide_eq_true h)
theorem log2_small {n : Nat} {k : Nat} (h : n < 2 ^ k) (hk : 0 < k) : n.log2 < k := by
  by_cases z : n = 0
  · subst z; rw [Nat.log2_zero]; exact hk
  · exact (Nat.log2_lt z).mpr h
theorem g_fdiv {α : Type} {j : Int} {r : R α} (h : 0 < j) (h2 : j < 4611686018427387904) : guardR (decide (0 < j) && decide (j.natAbs.log2 < 9000)) r = r := by
  refine guard_of r ?_
  rw [Bool.and_eq_true]
  refine ⟨decide_eq_true h, decide_eq_true ?_⟩
  have : j.natAbs.log2 < 62 := log2_small (by omega) (by decide)
  omega
theorem g_shl {α : Type} {i j : Int} {r : R α} (h : 0 ≤ j) (h1 : j < 90000000) (h2 : -4611686018427387904 < i) (h3 : i < 4611686018427387904) : guardR (shlOk i j) r = r := by
  refine guard_of r ?_
  unfold shlOk
  rw [Bool.and_eq_true]
  refine ⟨decide_eq_true h, decide_eq_true ?_⟩
  have : i.natAbs.log2 < 62 := log2_small (by omega) (by decide)
  omega
theorem g_mul {α : Type} {i j : Int} {r : R α} (h2 : -4611686018427387904 < i) (h3 : i < 4611686018427387904) (h4 : -4611686018427387904 < j) (h5 : j < 4611686018427387904) : guardR (mulOk i j) r = r := by
  refine guard_of r ?_
  unfold mulOk
  refine decide_eq_true ?_
  have : i.natAbs.log2 < 62 := log2_small (by omega) (by decide)
  have : j.natAbs.log2 < 62 := log2_small (by omega) (by decide)
  omega
theorem g_fits {α : Type} {n : Nat} {r : R α} (h : n ≤ 16000000) : guardR (fitsN n) r = r := guard_of r (fits_of h)
theorem g_ends {α : Type} {i : Int} {r : R α} (h1 : -1000000000000 ≤ i) (h2 : i ≤ 1000000000000) : guardR (ends62 i) r = r := guard_of r (ends_of h1 h2)
theorem g_and {α : Type} {a b : Bool} {r : R α} : guardR (a && b) r = guardR a (guardR b r) := by cases a <;> rfl
def loopF (r : R Fl) (k : PEnv → R Fl) : R Fl := r.bind fun fl => (match fl with
  | .nx ρ2 => k ρ2
  | .ct ρ2 => k ρ2
  | .bk ρ2 => .ok (.nx ρ2)
  | .rt p => .ok (.rt p))
theorem for_nil {body : PEnv → R Fl} {tg : Tg} {ρ : PEnv} : forGo body tg [] ρ = .ok (.nx ρ) := rfl
theorem for_cons {body : PEnv → R Fl} {tg : Tg} {ρ : PEnv} {x : PyData} {xs : List PyData} : forGo body tg (x :: xs) ρ = (setTg tg false x ρ).bind fun ρ1 => loopF (body ρ1) (forGo body tg xs) := rfl
section
variable {ρ : PEnv} {k : PEnv → R Fl}
theorem loopF_nx : loopF (.ok (.nx ρ)) k = k ρ := rfl
theorem loopF_ct : loopF (.ok (.ct ρ)) k = k ρ := rfl
theorem loopF_bk : loopF (.ok (.bk ρ)) k = .ok (.nx ρ) := rfl
theorem loopF_rt {p : PyData} : loopF (.ok (.rt p)) k = .ok (.rt p) := rfl
theorem loopF_ite {c : Prop} [Decidable c] {a b : R Fl} : loopF (if c then a else b) k = if c then loopF a k else loopF b k := by split <;> rfl
theorem loopF_guard {c : Bool} {r : R Fl} : loopF (guardR c r) k = guardR c (loopF r k) := by cases c <;> rfl
theorem loopF_bind {α : Type} {r : R α} {f : α → R Fl} : loopF (r.bind f) k = r.bind fun a => loopF (f a) k := by cases r <;> rfl
theorem share_cons {i : Nat} {L : List Nat} {ρ : PEnv} : share (i :: L) ρ = (share L ρ).modify i share1 := rfl
theorem mod_zero {s : Sl} {ρ : PEnv} : (s :: ρ).modify 0 share1 = share1 s :: ρ := rfl
theorem mod_succ {s : Sl} {ρ : PEnv} {i : Nat} : (s :: ρ).modify (i + 1) share1 = s :: ρ.modify i share1 := by simp
theorem share1_s {b : Bool} {p : PyData} : share1 (some (b, p)) = some (false, p) := rfl
theorem share1_n : share1 none = none := rfl
end
/-- range(0, max(1, n), c) over a script's cells -/
theorem rng3_fin : ∀ n : _root_.Fin 65, ∀ c : _root_.Fin 13, c.val = 0 ∨ (rng3Ok 0 (n.val : Nat) (c.val : Nat) = true ∧ (Builtin.Range.rangeSize 0 (n.val : Nat) (c.val : Nat)).toNat ≤ 64) := by decide +kernel
theorem rng3_ok {n c : Int} (h0 : 0 ≤ n) (hn : n ≤ 64) (hc : 0 < c) (hc2 : c ≤ 12) : rng3Ok 0 n c = true ∧ (Builtin.Range.rangeSize 0 n c).toNat ≤ 64 := by
  have := rng3_fin ⟨n.toNat, by omega⟩ ⟨c.toNat, by omega⟩
  simp only [Int.toNat_of_nonneg h0, Int.toNat_of_nonneg (Int.le_of_lt hc)] at this
  rcases this with z | z
  · exfalso; omega
  · exact z
theorem g_rng3 {α : Type} {n c : Int} {r : R α} (h0 : 0 ≤ n) (hn : n ≤ 64) (hc : 0 < c) (hc2 : c ≤ 12) : guardR (rng3Ok 0 n c) r = r := guard_of r (rng3_ok h0 hn hc hc2).1
theorem nn0 : ((0 : Nat) : Int) = 0 := rfl
theorem nn1 : ((1 : Nat) : Int) = 1 := rfl
theorem nn2 : ((2 : Nat) : Int) = 2 := rfl
theorem nn3 : ((3 : Nat) : Int) = 3 := rfl
theorem nn4 : ((4 : Nat) : Int) = 4 := rfl
theorem nn5 : ((5 : Nat) : Int) = 5 := rfl
theorem nn6 : ((6 : Nat) : Int) = 6 := rfl
/-! shaped, without texts: no dicts, not deeper than n -/
mutual
def plainD : Nat → PyData → Bool
  | 0, .list _ => false
  | 0, .tuple _ => false
  | _, .dict _ => false
  | _, .str _ => false
  | n + 1, .list ps => plainDs n ps
  | n + 1, .tuple ps => plainDs n ps
  | _, _ => true
def plainDs : Nat → List PyData → Bool
  | _, [] => true
  | n, p :: ps => plainD n p && plainDs n ps
end
/-! == of equal data is True -/
mutual
theorem plainD_ok : ∀ (n : Nat) (p : PyData), plainD n p = true → p.canLay0 = true ∧ p.depth ≤ n
  | _, .none, _ => ⟨rfl, Nat.zero_le _⟩
  | _, .bool _, _ => ⟨rfl, Nat.zero_le _⟩
  | _, .int _, _ => ⟨rfl, Nat.zero_le _⟩
  | n, .str _, h => by cases n <;> (unfold plainD at h; cases h)
  | n, .dict _, h => by cases n <;> (unfold plainD at h; cases h)
  | 0, .list _, h => by unfold plainD at h; cases h
  | 0, .tuple _, h => by unfold plainD at h; cases h
  | n + 1, .list ps, h => by
    unfold plainD at h
    obtain ⟨h1, h2⟩ := plainDs_ok n ps h
    exact ⟨by unfold PyData.canLay0; exact h1, by unfold PyData.depth; omega⟩
  | n + 1, .tuple ps, h => by
    unfold plainD at h
    obtain ⟨h1, h2⟩ := plainDs_ok n ps h
    exact ⟨by unfold PyData.canLay0; exact h1, by unfold PyData.depth; omega⟩
theorem plainDs_ok : ∀ (n : Nat) (ps : List PyData), plainDs n ps = true → PyData.canLayAll0 ps = true ∧ PyData.depthAll ps ≤ n
  | _, [], _ => ⟨by unfold PyData.canLayAll0; rfl, by unfold PyData.depthAll; exact Nat.zero_le _⟩
  | n, p :: ps, h => by
    unfold plainDs at h
    rw [Bool.and_eq_true] at h
    obtain ⟨a1, a2⟩ := plainD_ok n p h.1
    obtain ⟨b1, b2⟩ := plainDs_ok n ps h.2
    refine ⟨by unfold PyData.canLayAll0; rw [a1, b1]; rfl, by unfold PyData.depthAll; exact Nat.max_le.mpr ⟨a2, b2⟩⟩
end
theorem shaped_of {p : PyData} (h : plainD 60 p = true) : SeqAt.shaped p = true := by
  obtain ⟨h1, h2⟩ := plainD_ok 60 p h
  unfold SeqAt.shaped
  rw [h1]
  exact decide_eq_true (by omega)
end L2.Pu
namespace L2.Pu
open PySem PySem.Spec PyProof.Rows
/-- a turn that goes on, with P -/
def Nx (P : PEnv → Prop) (r : R Fl) : Prop := ∃ ρ, (r = .ok (.nx ρ) ∨ r = .ok (.ct ρ)) ∧ P ρ
/-! the bits -/
theorem toNat_pow (j : Nat) : ((2 : Int) ^ j).toNat = 2 ^ j := by
  have : ((2 : Int) ^ j) = ((2 ^ j : Nat) : Int) := by simp
  rw [this, Int.toNat_natCast]
theorem pow_nonneg2 (j : Nat) : (0 : Int) ≤ 2 ^ j := by
  have : ((2 : Int) ^ j) = ((2 ^ j : Nat) : Int) := by simp
  rw [this]
  exact Int.natCast_nonneg _
theorem pow_pos2 (j : Nat) : (0 : Int) < 2 ^ j := by
  have : ((2 : Int) ^ j) = ((2 ^ j : Nat) : Int) := by simp
  have := Nat.two_pow_pos j
  omega
theorem nat_band (n j : Nat) : n &&& 2 ^ j = if n / 2 ^ j % 2 = 1 then 2 ^ j else 0 := by
  refine Nat.eq_of_testBit_eq fun k => ?_
  rw [Nat.testBit_and, Nat.testBit_two_pow]
  by_cases h : j = k
  · rw [← h, Nat.testBit_eq_decide_div_mod_eq]
    by_cases hc : n / 2 ^ j % 2 = 1
    · rw [if_pos hc, Nat.testBit_two_pow, decide_eq_true hc]; rfl
    · rw [if_neg hc, decide_eq_false hc]; simp
  · split
    · rw [Nat.testBit_two_pow, decide_eq_false h, Bool.and_false]
    · rw [decide_eq_false h, Bool.and_false]; simp
theorem band_pow {p : Int} (h : 0 ≤ p) (j : Nat) : Builtin.bitAnd p (2 ^ j) = if p / 2 ^ j % 2 = 1 then 2 ^ j else 0 := by
  rw [bitAnd_pp h (pow_nonneg2 j), toNat_pow, nat_band]
  have e : p / 2 ^ j % 2 = ((p.toNat / 2 ^ j % 2 : Nat) : Int) := by
    have : p = (p.toNat : Int) := by omega
    rw [this]; simp
  rw [e]
  by_cases hc : p.toNat / 2 ^ j % 2 = 1
  · rw [if_pos hc, if_pos (by omega)]; simp
  · rw [if_neg hc, if_neg (by omega)]; simp
theorem band_one {p : Int} (h : 0 ≤ p) : Builtin.bitAnd p 1 = p % 2 := by
  have e := band_pow h 0
  simp only [Int.pow_zero, Int.ediv_one] at e
  rw [e]
  split <;> omega
theorem g_pow2 {α : Type} {n : Nat} {r : R α} : guardR (decide ((0 : Int) < 2 ^ n)) r = r := guard_of r (decide_eq_true (pow_pos2 n))
end L2.Pu
namespace L2.Pu
open PySem PySem.Spec PyProof.Rows
/-! comprehensions by items, == of lists by items -/
theorem cg_nil {elt : PEnv → R PyData} {cond : PEnv → R Bool} {tg : Tg} {ρ : PEnv} : compGo elt cond tg ρ [] = .ok [] := rfl
theorem cg_cons {elt : PEnv → R PyData} {cond : PEnv → R Bool} {tg : Tg} {ρ : PEnv} {x : PyData} {xs : List PyData} : compGo elt cond tg ρ (x :: xs) = (setTg tg false x ρ).bind fun ρ1 => (cond ρ1).calm.bind fun b =>
    if b = true then (elt ρ1).calm.bind fun y => (compGo elt cond tg ρ xs).bind fun ys => .ok (y :: ys) else compGo elt cond tg ρ xs := rfl
theorem rg_0 : rangeP 0 (Int.toNat 0) 1 = [] := by rfl
theorem rg_5 : rangeP 0 (Int.toNat 5) 1 = [.int 0, .int 1, .int 2, .int 3, .int 4] := by rfl
theorem rg_7 : rangeP 0 (Int.toNat 7) 1 = [.int 0, .int 1, .int 2, .int 3, .int 4, .int 5, .int 6] := by rfl
theorem rg_1 : rangeP 0 (Int.toNat 1) 1 = [.int 0] := by rfl
theorem rg_2 : rangeP 0 (Int.toNat 2) 1 = [.int 0, .int 1] := by rfl
theorem rg_3 : rangeP 0 (Int.toNat 3) 1 = [.int 0, .int 1, .int 2] := by rfl
theorem rg_4 : rangeP 0 (Int.toNat 4) 1 = [.int 0, .int 1, .int 2, .int 3] := by rfl
theorem rg_6 : rangeP 0 (Int.toNat 6) 1 = [.int 0, .int 1, .int 2, .int 3, .int 4, .int 5] := by rfl
theorem rg_8 : rangeP 0 (Int.toNat 8) 1 = [.int 0, .int 1, .int 2, .int 3, .int 4, .int 5, .int 6, .int 7] := by rfl
theorem wipe_nil {ρ : PEnv} : wipeP [] ρ = ρ := rfl
theorem wipe_cons {i : Nat} {L : List Nat} {ρ : PEnv} : wipeP (i :: L) ρ = (wipeP L ρ).set i none := rfl
def notO : Option Sl → Bool
  | some (some (true, _)) => false
  | _ => true
theorem no_u {i : Nat} {ρ : PEnv} : notOwn ρ i = notO ρ[i]? := by unfold notOwn notO; split <;> simp_all
theorem no_0 {b : Bool} {p : PyData} : notO (some (some (b, p))) = !b := by cases b <;> rfl
theorem no_1 : notO (some none) = true := rfl
theorem all_nil {f : Nat → Bool} : List.all [] f = true := rfl
theorem all_cons {f : Nat → Bool} {i : Nat} {L : List Nat} : List.all (i :: L) f = (f i && L.all f) := rfl
theorem ea_nil : PyData.eqvAll [] [] = true := by unfold PyData.eqvAll; rfl
theorem ea_cons {x y : PyData} {xs ys : List PyData} : PyData.eqvAll (x :: xs) (y :: ys) = (PyData.eqv x y && PyData.eqvAll xs ys) := by rw [PyData.eqvAll]
theorem ev_int {i j : Int} : PyData.eqv (.int i) (.int j) = decide (i = j) := by rw [PyData.eqv]; by_cases h : i = j <;> simp [h]
theorem cut_4 {p q r s : PyData} {L : List PyData} : cutP (p :: q :: r :: s :: L) none (some 4) = [p, q, r, s] := by
  have := cut_to (xs := p :: q :: r :: s :: L) 4
  exact this
theorem cut_01 {p : PyData} {L : List PyData} : cutP (p :: L) (some 1) none = L := by
  have := cut_from (xs := p :: L) 1
  exact this
theorem g_lg {α : Type} {j : Int} {r : R α} (h : -4611686018427387904 < j) (h2 : j < 4611686018427387904) : guardR (decide (j.natAbs.log2 < 9000)) r = r := by
  refine guard_of r (decide_eq_true ?_)
  have := log2_small (n := j.natAbs) (k := 62) (by omega) (by omega)
  omega
theorem g_nab {α : Type} {j : Int} {r : R α} (h : -4611686018427387904 < j) (h2 : j < 4611686018427387904) : guardR (decide (j.natAbs < 2 ^ 64)) r = r := guard_of r (decide_eq_true (by omega))
theorem g_le {α : Type} {i j : Int} {r : R α} (h : i ≤ j) : guardR (decide (i ≤ j)) r = r := guard_of r (decide_eq_true h)
theorem g_lt {α : Type} {i j : Int} {r : R α} (h : i < j) : guardR (decide (i < j)) r = r := guard_of r (decide_eq_true h)
theorem g_10 {α : Type} {n : Nat} {r : R α} : guardR (decide ((0 : Int) < 10 ^ n)) r = r := guard_of r (decide_eq_true (Int.pow_pos (by decide)))
theorem g_pow10 {α : Type} {j : Int} {r : R α} (h0 : 0 ≤ j) (h1 : j ≤ 1000) : guardR (decide (0 ≤ j) && decide (j ≤ 1000000) && decide ((10 : Int).natAbs < 2 ^ 64)) r = r := guard_of r (by rw [decide_eq_true h0, decide_eq_true (by omega)]; decide)
theorem sh_t1 {a0 : Int} : SeqAt.shaped (.tuple [.int a0]) = true := shaped_of rfl
theorem sh_l1 {a0 : Int} : SeqAt.shaped (.list [.int a0]) = true := shaped_of rfl
theorem sh_t2 {a0 a1 : Int} : SeqAt.shaped (.tuple [.int a0, .int a1]) = true := shaped_of rfl
theorem sh_l2 {a0 a1 : Int} : SeqAt.shaped (.list [.int a0, .int a1]) = true := shaped_of rfl
theorem sh_t3 {a0 a1 a2 : Int} : SeqAt.shaped (.tuple [.int a0, .int a1, .int a2]) = true := shaped_of rfl
theorem sh_l3 {a0 a1 a2 : Int} : SeqAt.shaped (.list [.int a0, .int a1, .int a2]) = true := shaped_of rfl
theorem sh_t4 {a0 a1 a2 a3 : Int} : SeqAt.shaped (.tuple [.int a0, .int a1, .int a2, .int a3]) = true := shaped_of rfl
theorem sh_l4 {a0 a1 a2 a3 : Int} : SeqAt.shaped (.list [.int a0, .int a1, .int a2, .int a3]) = true := shaped_of rfl
theorem sh_t5 {a0 a1 a2 a3 a4 : Int} : SeqAt.shaped (.tuple [.int a0, .int a1, .int a2, .int a3, .int a4]) = true := shaped_of rfl
theorem sh_l5 {a0 a1 a2 a3 a4 : Int} : SeqAt.shaped (.list [.int a0, .int a1, .int a2, .int a3, .int a4]) = true := shaped_of rfl
theorem sh_t6 {a0 a1 a2 a3 a4 a5 : Int} : SeqAt.shaped (.tuple [.int a0, .int a1, .int a2, .int a3, .int a4, .int a5]) = true := shaped_of rfl
theorem sh_l6 {a0 a1 a2 a3 a4 a5 : Int} : SeqAt.shaped (.list [.int a0, .int a1, .int a2, .int a3, .int a4, .int a5]) = true := shaped_of rfl
theorem xn4_1 : ixN 4 1 = some 1 := by decide
theorem xn4_2 : ixN 4 2 = some 2 := by decide
theorem xn4_3 : ixN 4 3 = some 3 := by decide
theorem xn4_0 : ixN 4 0 = some 0 := by decide
theorem cm_eq_bb {a b : Bool} : cmV .eq (.bool a) (.bool b) = .ok (.bool (decide (a = b))) := by cases a <;> cases b <;> rfl
theorem cm_ne_bb {a b : Bool} : cmV .ne (.bool a) (.bool b) = .ok (.bool (!decide (a = b))) := by cases a <;> cases b <;> rfl
end L2.Pu
namespace L2.Pu.Law
open PySem PySem.Spec PyProof.Rows
local macro_rules | `(tactic| k_places) => `(tactic| simp (maxSteps := 1000000) (disch := first | omega | assumption) only [run, startP, evSs_n, evSs_c, seqF_nx, seqF_rt, seqF_bk, seqF_ct, seqF_ite, seqF_bind, seqF_guard, bind_ite, bind_guard, bind_ok, endV_rt, endV_nx, endV_ite, endV_guard,
  x_asg, x_app, x_sub, x_drop, x_ife, x_ret, x_brk, x_cnt, x_pass, x_loop, varR_s, ownR_s, e_var, e_cst, e_bin, e_neg, e_nt, e_conj, e_disj, e_ife, e_cmp, e_tup, e_lst, e_rep, e_idx, e_sl, e_call, e_bi, e_isi, e_comp, es_nil, es_cons, eo_none, eo_some, ec_none, ec_some,
  isi_int_int, isi_int_bool, isi_tup_tup, isi_tup_int, isi_bool_bool, isi_bool_int, isi_lst_lst, isi_str_str, isi_tup_lst, isi_lst_tup, boolV_b, intV_i, notV_b, negV_i, op_ii, op_i_add, op_i_sub, op_i_mul, op_i_fdiv, op_i_mod, op_i_pow, op_i_shl, op_i_shr, op_i_band, op_i_bor, op_i_bxor, op_tt, op_ll,
  cm_eq_ii, cm_ne_ii, cm_eq_ss, cm_ne_ss, cm_lt, cm_le, cm_gt, cm_ge, cm_eq_tt, cm_ne_tt, cm_eq_ll, cm_ne_ll, cm_isn, cm_notn, bi_len_l, bi_len_t, bi_list_l, bi_list_t, bi_tup_l, bi_tup_t, bi_max, bi_min, bi_int_i, bi_int_b, ix_t, ix_l, sl_t, sl_l, at_0, at_1, at_2, at_3, at_4, at_5, optR_some,
  src_t, src_l, src_r1, src_r2, src_r3, set_nm, set_tp, setA_nil, setA_cons, share_nil, nl_int, nl_bool, nl_str, nl_none, nl_tup, nls_nil, nls_cons, nl_list, il_list, il_tup, il_int, il_bool, il_str, il_none, ite_tt, ite_ff, calm_ok, guard_true, fresh, lk, lkI, lks,
  List.map_cons, List.map_nil, List.length_cons, List.length_nil, List.length_map, List.cons_append, List.nil_append, List.append_nil, List.getElem?_cons_zero, List.getElem?_cons_succ, List.set_cons_zero, List.set_cons_succ, List.replicate_succ, List.replicate_zero, Nat.reduceSub, Nat.reduceAdd, Nat.zero_add,
  Bool.and_true, Bool.true_and, Bool.not_true, Bool.not_false, Bool.or_true, Bool.true_or, Bool.false_or, Bool.or_false, Bool.and_false, Bool.false_and, if_true, if_false, if_pos, if_neg, Bool.false_eq_true, decide_eq_true_eq, Bool.not_eq_true', decide_eq_false_iff_not, reduceIte, decide_true, decide_false, g_pow2, cg_nil, cg_cons, rg_0, rg_1, rg_2, rg_3, rg_4, rg_5, rg_6, rg_7, rg_8, wipe_nil, wipe_cons, no_u, no_0, no_1, all_nil, all_cons, ea_nil, ea_cons, ev_int, cut_4, cut_01, g_pow10, g_lg, g_nab, g_le, g_lt, g_10, sh_t1, sh_l1, sh_t2, sh_l2, sh_t3, sh_l3, sh_t4, sh_l4, sh_t5, sh_l5, sh_t6, sh_l6, eq_self, xn4_0, xn4_1, xn4_2, xn4_3, g_mod, g_shr, g_fdiv, g_shl, g_mul, g_fits, g_ends, g_rng3, g_and, nn0, nn1, nn2, nn3, nn4, nn5, nn6, for_nil, for_cons, loopF_nx, loopF_ct, loopF_bk, loopF_rt, loopF_ite, loopF_guard, loopF_bind, share_cons, mod_zero, mod_succ, share1_s, share1_n, bind_ok, Int.reduceNeg, Int.reduceLT, Int.reduceLE, Int.reduceEq, Int.reduceNe, not_true_eq_false, not_false_eq_true, Int.reduceAdd, Int.reduceSub, Int.reduceMul, Int.reduceMod, Int.reduceDiv, Bool.and_eq_true, Int.zero_add, Int.add_zero, Int.mul_one, Int.one_mul, Nat.reduceEqDiff, reduceCtorEq, List.contains_nil, List.elem_nil, *])
/-! ### four parts -/
structure Z4 where
  a : Int
  b : Int
  c : Int
  d : Int
def Z4.l (p : Z4) : List PyData := [.int p.a, .int p.b, .int p.c, .int p.d]
def rt (p : Z4) : Z4 := ⟨p.b - p.d, p.a + p.c, p.b + p.d, p.c - p.a⟩
def hv (p : Z4) : Prop := (p.a - p.c) % 2 = 0 ∧ (p.b - p.d) % 2 = 0
instance (p : Z4) : Decidable (hv p) := by unfold hv; exact inferInstance
/-- a number of the program -/
def nv (p : Z4) (k : Int) : PyData := .tuple [.int p.a, .int p.b, .int p.c, .int p.d, .int k]
end L2.Pu.Law
namespace L2.Pu.Law
open PySem PySem.Spec PyProof.Rows
local macro_rules | `(tactic| k_places) => `(tactic| simp (maxSteps := 1000000) (disch := first | omega | assumption) only [run, startP, evSs_n, evSs_c, seqF_nx, seqF_rt, seqF_bk, seqF_ct, seqF_ite, seqF_bind, seqF_guard, bind_ite, bind_guard, bind_ok, endV_rt, endV_nx, endV_ite, endV_guard,
  x_asg, x_app, x_sub, x_drop, x_ife, x_ret, x_brk, x_cnt, x_pass, x_loop, varR_s, ownR_s, e_var, e_cst, e_bin, e_neg, e_nt, e_conj, e_disj, e_ife, e_cmp, e_tup, e_lst, e_rep, e_idx, e_sl, e_call, e_bi, e_isi, e_comp, es_nil, es_cons, eo_none, eo_some, ec_none, ec_some,
  isi_int_int, isi_int_bool, isi_tup_tup, isi_tup_int, isi_bool_bool, isi_bool_int, isi_lst_lst, isi_str_str, isi_tup_lst, isi_lst_tup, boolV_b, intV_i, notV_b, negV_i, op_ii, op_i_add, op_i_sub, op_i_mul, op_i_fdiv, op_i_mod, op_i_pow, op_i_shl, op_i_shr, op_i_band, op_i_bor, op_i_bxor, op_tt, op_ll,
  cm_eq_ii, cm_ne_ii, cm_eq_ss, cm_ne_ss, cm_lt, cm_le, cm_gt, cm_ge, cm_eq_tt, cm_ne_tt, cm_eq_ll, cm_ne_ll, cm_isn, cm_notn, bi_len_l, bi_len_t, bi_list_l, bi_list_t, bi_tup_l, bi_tup_t, bi_max, bi_min, bi_int_i, bi_int_b, ix_t, ix_l, sl_t, sl_l, at_0, at_1, at_2, at_3, at_4, at_5, optR_some,
  src_t, src_l, src_r1, src_r2, src_r3, set_nm, set_tp, setA_nil, setA_cons, share_nil, nl_int, nl_bool, nl_str, nl_none, nl_tup, nls_nil, nls_cons, nl_list, il_list, il_tup, il_int, il_bool, il_str, il_none, ite_tt, ite_ff, calm_ok, guard_true, fresh, lk, lkI, lks,
  List.map_cons, List.map_nil, List.length_cons, List.length_nil, List.length_map, List.cons_append, List.nil_append, List.append_nil, List.getElem?_cons_zero, List.getElem?_cons_succ, List.set_cons_zero, List.set_cons_succ, List.replicate_succ, List.replicate_zero, Nat.reduceSub, Nat.reduceAdd, Nat.zero_add,
  Bool.and_true, Bool.true_and, Bool.not_true, Bool.not_false, Bool.or_true, Bool.true_or, Bool.false_or, Bool.or_false, Bool.and_false, Bool.false_and, if_true, if_false, if_pos, if_neg, Bool.false_eq_true, decide_eq_true_eq, Bool.not_eq_true', decide_eq_false_iff_not, reduceIte, decide_true, decide_false, g_pow2, cg_nil, cg_cons, rg_0, rg_1, rg_2, rg_3, rg_4, rg_5, rg_6, rg_7, rg_8, wipe_nil, wipe_cons, no_u, no_0, no_1, all_nil, all_cons, ea_nil, ea_cons, ev_int, cut_4, cut_01, g_pow10, g_lg, g_nab, g_le, g_lt, g_10, sh_t1, sh_l1, sh_t2, sh_l2, sh_t3, sh_l3, sh_t4, sh_l4, sh_t5, sh_l5, sh_t6, sh_l6, eq_self, xn4_0, xn4_1, xn4_2, xn4_3, g_mod, g_shr, g_fdiv, g_shl, g_mul, g_fits, g_ends, g_rng3, g_and, nn0, nn1, nn2, nn3, nn4, nn5, nn6, for_nil, for_cons, loopF_nx, loopF_ct, loopF_bk, loopF_rt, loopF_ite, loopF_guard, loopF_bind, share_cons, mod_zero, mod_succ, share1_s, share1_n, bind_ok, Int.reduceNeg, Int.reduceLT, Int.reduceLE, Int.reduceEq, Int.reduceNe, not_true_eq_false, not_false_eq_true, Int.reduceAdd, Int.reduceSub, Int.reduceMul, Int.reduceMod, Int.reduceDiv, Bool.and_eq_true, Int.zero_add, Int.add_zero, Int.mul_one, Int.one_mul, Nat.reduceEqDiff, reduceCtorEq, List.contains_nil, List.elem_nil, *])
/-! ### bits of words below 64 -/
/-- a word -/
def wd (x z t : Nat) : PyData := .tuple [.int x, .int z, .int t]
end L2.Pu.Law
namespace L2.Pu.Law
open PySem PySem.Spec PyProof.Rows
local macro_rules | `(tactic| k_places) => `(tactic| simp (maxSteps := 1000000) (disch := first | omega | assumption) only [run, startP, evSs_n, evSs_c, seqF_nx, seqF_rt, seqF_bk, seqF_ct, seqF_ite, seqF_bind, seqF_guard, bind_ite, bind_guard, bind_ok, endV_rt, endV_nx, endV_ite, endV_guard,
  x_asg, x_app, x_sub, x_drop, x_ife, x_ret, x_brk, x_cnt, x_pass, x_loop, varR_s, ownR_s, e_var, e_cst, e_bin, e_neg, e_nt, e_conj, e_disj, e_ife, e_cmp, e_tup, e_lst, e_rep, e_idx, e_sl, e_call, e_bi, e_isi, e_comp, es_nil, es_cons, eo_none, eo_some, ec_none, ec_some,
  isi_int_int, isi_int_bool, isi_tup_tup, isi_tup_int, isi_bool_bool, isi_bool_int, isi_lst_lst, isi_str_str, isi_tup_lst, isi_lst_tup, boolV_b, intV_i, notV_b, negV_i, op_ii, op_i_add, op_i_sub, op_i_mul, op_i_fdiv, op_i_mod, op_i_pow, op_i_shl, op_i_shr, op_i_band, op_i_bor, op_i_bxor, op_tt, op_ll,
  cm_eq_ii, cm_ne_ii, cm_eq_ss, cm_ne_ss, cm_lt, cm_le, cm_gt, cm_ge, cm_eq_tt, cm_ne_tt, cm_eq_ll, cm_ne_ll, cm_isn, cm_notn, bi_len_l, bi_len_t, bi_list_l, bi_list_t, bi_tup_l, bi_tup_t, bi_max, bi_min, bi_int_i, bi_int_b, ix_t, ix_l, sl_t, sl_l, at_0, at_1, at_2, at_3, at_4, at_5, optR_some,
  src_t, src_l, src_r1, src_r2, src_r3, set_nm, set_tp, setA_nil, setA_cons, share_nil, nl_int, nl_bool, nl_str, nl_none, nl_tup, nls_nil, nls_cons, nl_list, il_list, il_tup, il_int, il_bool, il_str, il_none, ite_tt, ite_ff, calm_ok, guard_true, fresh, lk, lkI, lks,
  List.map_cons, List.map_nil, List.length_cons, List.length_nil, List.length_map, List.cons_append, List.nil_append, List.append_nil, List.getElem?_cons_zero, List.getElem?_cons_succ, List.set_cons_zero, List.set_cons_succ, List.replicate_succ, List.replicate_zero, Nat.reduceSub, Nat.reduceAdd, Nat.zero_add,
  Bool.and_true, Bool.true_and, Bool.not_true, Bool.not_false, Bool.or_true, Bool.true_or, Bool.false_or, Bool.or_false, Bool.and_false, Bool.false_and, if_true, if_false, if_pos, if_neg, Bool.false_eq_true, decide_eq_true_eq, Bool.not_eq_true', decide_eq_false_iff_not, reduceIte, decide_true, decide_false, g_pow2, cg_nil, cg_cons, rg_0, rg_1, rg_2, rg_3, rg_4, rg_5, rg_6, rg_7, rg_8, wipe_nil, wipe_cons, no_u, no_0, no_1, all_nil, all_cons, ea_nil, ea_cons, ev_int, cut_4, cut_01, g_pow10, g_lg, g_nab, g_le, g_lt, g_10, sh_t1, sh_l1, sh_t2, sh_l2, sh_t3, sh_l3, sh_t4, sh_l4, sh_t5, sh_l5, sh_t6, sh_l6, eq_self, xn4_0, xn4_1, xn4_2, xn4_3, g_mod, g_shr, g_fdiv, g_shl, g_mul, g_fits, g_ends, g_rng3, g_and, nn0, nn1, nn2, nn3, nn4, nn5, nn6, for_nil, for_cons, loopF_nx, loopF_ct, loopF_bk, loopF_rt, loopF_ite, loopF_guard, loopF_bind, share_cons, mod_zero, mod_succ, share1_s, share1_n, bind_ok, Int.reduceNeg, Int.reduceLT, Int.reduceLE, Int.reduceEq, Int.reduceNe, not_true_eq_false, not_false_eq_true, Int.reduceAdd, Int.reduceSub, Int.reduceMul, Int.reduceMod, Int.reduceDiv, Bool.and_eq_true, Int.zero_add, Int.add_zero, Int.mul_one, Int.one_mul, Nat.reduceEqDiff, reduceCtorEq, List.contains_nil, List.elem_nil, *])
/-! ### the numbers of the laws -/
/-! ### sums -/
/-! ### products -/
def Sm (i : Int) : Prop := i.natAbs < 2 ^ 10000000
theorem g_mulS {α : Type} {i j : Int} {r : R α} (h1 : Sm i) (h2 : Sm j) : guardR (mulOk i j) r = r := by
  refine guard_of r (decide_eq_true ?_)
  have a := log2_small (n := i.natAbs) (k := 10000000) h1 (by omega)
  have b := log2_small (n := j.natAbs) (k := 10000000) h2 (by omega)
  omega
end L2.Pu.Law
namespace L2.Pu
open PySem PySem.Spec PyProof.Rows
/-! ### statements, one behind the other -/
abbrev V (p : PyData) : Sl := some (false, p)
abbrev O (xs : List PyData) : Sl := some (true, .list xs)
/-- a dict of one's own, and one that was lent -/
abbrev DD (l : List (Int × PyData)) : Sl := some (true, .dict (dL l))
abbrev DM (l : List (Int × PyData)) : Sl := some (true, .dict ((.none, .none) :: dL l))
/-- values that lean on nothing -/
def scs (l : List (Int × PyData)) : Bool := l.all fun kv => (scV kv.2).isSome
theorem dictV_dL {l : List (Int × PyData)} (h : scs l = true) : dictV (.dict (dL l)) = .ok l := by
  show optR (unD (dL l)) = _
  rw [unD_dL h]; rfl
theorem dictV_mk {l : List (Int × PyData)} (h : scs l = true) : dictV (.dict ((.none, .none) :: dL l)) = .ok l := by
  show optR (unDs (dL l)) = _
  rw [unDs_dL h]; rfl
theorem reD_dL {l m : List (Int × PyData)} : reD (dL l) m = dL m := by
  unfold reD
  rw [isM_dL]; rfl
theorem reD_mk {l m : List (Int × PyData)} : reD ((.none, .none) :: dL l) m = (.none, .none) :: dL m := rfl
def T (r : R Fl) (Q : R Fl → Prop) : Prop := Q r
/-- what is asked of a turn of a loop: J behind a turn that goes on, K behind a break, Q where it ends -/
def Lp (J K : PEnv → Prop) (Q : R Fl → Prop) : R Fl → Prop
  | .ok (.nx ρ) => J ρ
  | .ok (.ct ρ) => J ρ
  | .ok (.bk ρ) => K ρ
  | .ok (.rt p) => Q (.ok (.rt p))
  | .ex c as => Q (.ex c as)
  | .bad => False
section
variable {Φ : Nat → List PyData → R PyData} {w : Nat} {ρ ρ1 ρ2 : PEnv} {Q : R Fl → Prop} {ss : List S}
theorem t_nil (h : Q (.ok (.nx ρ))) : T (evSs Φ w [] ρ) Q := h
theorem evSs_app (a b : List S) (ρ : PEnv) : evSs Φ w (a ++ b) ρ = seqF (evSs Φ w a ρ) (evSs Φ w b) := by
  induction a generalizing ρ with
  | nil => rfl
  | cons s a ih =>
    show seqF (evS Φ w s ρ) (evSs Φ w (a ++ b)) = seqF (seqF (evS Φ w s ρ) (evSs Φ w a)) (evSs Φ w b)
    cases evS Φ w s ρ with
    | ok fl => cases fl with
      | nx ρ => exact ih ρ
      | _ => rfl
    | _ => rfl
theorem il_of_nl {p : PyData} (h : noList p = true) : isListP p = false := by
  cases p with
  | list _ => cases h
  | _ => rfl
theorem t_asg_n {i : Nat} {e : E} {p : PyData} (he : evE Φ e ρ = .ok p) (hn : noList p = true) (hρ : ρ.set i (some (false, p)) = ρ1) (h : T (evSs Φ w ss ρ1) Q) : T (evSs Φ w (.asg (.nm i) e :: ss) ρ) Q := by
  have : evS Φ w (.asg (.nm i) e) ρ = .ok (.nx ρ1) := by
    rw [x_asg, he, bind_ok, hn, if_pos rfl]
    show (R.ok _).bind _ = _
    rw [bind_ok, il_of_nl hn, Bool.and_false]
    show R.ok (Fl.nx (ρ.set i _)) = _
    rw [hρ]
  unfold T
  rw [evSs_c, this]
  exact h
theorem t_asg_l {i : Nat} {e : E} {ps : List PyData} (he : evE Φ e ρ = .ok (.list ps)) (hρ : (share (lk e) ρ).set i (some (fresh e, .list ps)) = ρ1) (h : T (evSs Φ w ss ρ1) Q) : T (evSs Φ w (.asg (.nm i) e :: ss) ρ) Q := by
  have : evS Φ w (.asg (.nm i) e) ρ = .ok (.nx ρ1) := by
    rw [x_asg, he, bind_ok]
    show R.ok (Fl.nx (((share (lk e) ρ)).set i (some (fresh e && true, .list ps)))) = _
    rw [Bool.and_true, hρ]
  unfold T
  rw [evSs_c, this]
  exact h
/-- whatever p is: the slots of the expression share from here on -/
theorem t_asg_tp {is : List Nat} {e : E} {ps : List PyData} (he : evE Φ e ρ = .ok (.tuple ps)) (hn : noList (.tuple ps) = true) (hρ : setAll is ps ρ = .ok ρ1) (h : T (evSs Φ w ss ρ1) Q) : T (evSs Φ w (.asg (.tp is) e :: ss) ρ) Q := by
  have : evS Φ w (.asg (.tp is) e) ρ = .ok (.nx ρ1) := by
    rw [x_asg, he, bind_ok, hn, if_pos rfl]
    show (setAll is ps ρ).bind _ = _
    rw [hρ]; rfl
  unfold T
  rw [evSs_c, this]
  exact h
theorem t_drop {e : E} {p : PyData} (he : evE Φ e ρ = .ok p) (h : T (evSs Φ w ss ρ) Q) : T (evSs Φ w (.drop e :: ss) ρ) Q := by
  unfold T
  rw [evSs_c, x_drop, he]
  exact h
theorem t_pass (h : T (evSs Φ w ss ρ) Q) : T (evSs Φ w (.pass :: ss) ρ) Q := h
theorem t_brk (h : Q (.ok (.bk ρ))) : T (evSs Φ w (.brk :: ss) ρ) Q := h
theorem t_cnt (h : Q (.ok (.ct ρ))) : T (evSs Φ w (.cnt :: ss) ρ) Q := h
theorem t_ret {e : E} {p : PyData} (he : evE Φ e ρ = .ok p) (h : Q (.ok (.rt p))) : T (evSs Φ w (.ret false e :: ss) ρ) Q := by
  unfold T
  rw [evSs_c, x_ret, he]
  exact h
def retOk (e : E) (ρ : PEnv) (p : PyData) : Bool := !isListP p || fresh e || (match e with | .var i => isOwn ρ i | _ => false)
theorem t_retf {e : E} {p : PyData} (he : evE Φ e ρ = .ok p) (hf : retOk e ρ p = true) (h : Q (.ok (.rt p))) : T (evSs Φ w (.ret true e :: ss) ρ) Q := by
  have : evS Φ w (.ret true e) ρ = .ok (.rt p) := by
    show (evE Φ e ρ).bind _ = _
    rw [he, bind_ok]
    unfold retV
    rw [Bool.not_true, Bool.false_or]
    unfold retOk at hf
    exact guard_of _ hf
  unfold T
  rw [evSs_c, this]
  exact h
theorem t_ife {c : E} {a b : List S} {t : Bool} (hc : evE Φ c ρ = .ok (.bool t)) (h : T (evSs Φ w ((cond t a b) ++ ss) ρ) Q) : T (evSs Φ w (.ife c a b :: ss) ρ) Q := by
  unfold T at h ⊢
  rw [evSs_app] at h
  rw [evSs_c, x_ife, hc, bind_ok, boolV_b, bind_ok]
  cases t <;> exact h
theorem t_if {c : E} {a b : List S} {t : Bool} (hc : evE Φ c ρ = .ok (.bool t)) (h1 : t = true → T (evSs Φ w (a ++ ss) ρ) Q) (h2 : t = false → T (evSs Φ w (b ++ ss) ρ) Q) : T (evSs Φ w (.ife c a b :: ss) ρ) Q := by
  refine t_ife hc ?_
  cases t
  · exact h2 rfl
  · exact h1 rfl
theorem t_app {i : Nat} {e : E} {p : PyData} {xs : List PyData} (hi : ρ[i]? = some (some (true, .list xs))) (he : evE Φ e ρ = .ok p) (hl : xs.length ≤ 16000000) (hn : noList p = true) (hρ : ρ.set i (some (true, .list (xs ++ [p]))) = ρ1) (h : T (evSs Φ w ss ρ1) Q) : T (evSs Φ w (.app i e :: ss) ρ) Q := by
  have : evS Φ w (.app i e) ρ = .ok (.nx ρ1) := by
    rw [x_app, hi, ownR_s, he, bind_ok, hn, if_pos rfl, Bool.true_or, Bool.and_true]
    show guardR (decide _) _ = _
    rw [decide_eq_true hl]
    show R.ok (Fl.nx (ρ.set i _)) = _
    rw [hρ]
  unfold T
  rw [evSs_c, this]
  exact h
theorem t_dnew {i : Nat} (hρ : ρ.set i (DD []) = ρ1) (h : T (evSs Φ w ss ρ1) Q) : T (evSs Φ w (.dnew i :: ss) ρ) Q := by
  have : evS Φ w (.dnew i) ρ = .ok (.nx ρ1) := by rw [← hρ]; rfl
  unfold T
  rw [evSs_c, this]
  exact h
theorem t_dput {i : Nat} {k e : E} {j : Int} {p : PyData} {l : List (Int × PyData)} (he : evE Φ e ρ = .ok p) (hi : ρ[i]? = some (DD l)) (hk : evE Φ k ρ = .ok (.int j)) (hl : scs l = true) (hs : (scV p).isSome = true) (hz : l.length ≤ 16000000) (hρ : ρ.set i (DD (putI l j p)) = ρ1) (h : T (evSs Φ w ss ρ1) Q) : T (evSs Φ w (.dput i k e :: ss) ρ) Q := by
  have : evS Φ w (.dput i k e) ρ = .ok (.nx ρ1) := by
    show ((evE Φ e ρ).bind fun p => (optR ρ[i]?).bind fun sl => (dslot sl).bind fun ks => (evE Φ k ρ).bind fun y => (intV y).bind fun k => (optR (unD ks)).bind fun l => guardR ((scV p).isSome && fitsN l.length) (.ok (Fl.nx (ρ.set i (some (true, .dict (reD ks (putI l k p)))))))) = _
    rw [he, bind_ok, hi]
    show ((evE Φ k ρ).bind fun y => (intV y).bind fun k => (optR (unD (dL l))).bind fun l' => guardR ((scV p).isSome && fitsN l'.length) (.ok (Fl.nx (ρ.set i (some (true, .dict (reD (dL l) (putI l' k p)))))))) = _
    rw [hk]
    show ((optR (unD (dL l))).bind fun l' => guardR ((scV p).isSome && fitsN l'.length) (.ok (Fl.nx (ρ.set i (some (true, .dict (reD (dL l) (putI l' j p)))))))) = _
    rw [unD_dL hl]
    show guardR ((scV p).isSome && fitsN l.length) (.ok (Fl.nx (ρ.set i (some (true, .dict (reD (dL l) (putI l j p))))))) = _
    rw [hs, show fitsN l.length = true from decide_eq_true hz, reD_dL, ← hρ]; rfl
  unfold T
  rw [evSs_c, this]
  exact h
theorem t_dputM {i : Nat} {k e : E} {j : Int} {p : PyData} {l : List (Int × PyData)} (he : evE Φ e ρ = .ok p) (hi : ρ[i]? = some (DM l)) (hk : evE Φ k ρ = .ok (.int j)) (hl : scs l = true) (hs : (scV p).isSome = true) (hz : l.length ≤ 16000000) (hρ : ρ.set i (DM (putI l j p)) = ρ1) (h : T (evSs Φ w ss ρ1) Q) : T (evSs Φ w (.dput i k e :: ss) ρ) Q := by
  have : evS Φ w (.dput i k e) ρ = .ok (.nx ρ1) := by
    show ((evE Φ e ρ).bind fun p => (optR ρ[i]?).bind fun sl => (dslot sl).bind fun ks => (evE Φ k ρ).bind fun y => (intV y).bind fun k => (optR (unD ks)).bind fun l => guardR ((scV p).isSome && fitsN l.length) (.ok (Fl.nx (ρ.set i (some (true, .dict (reD ks (putI l k p)))))))) = _
    rw [he, bind_ok, hi]
    show ((evE Φ k ρ).bind fun y => (intV y).bind fun k => (optR (unDs (dL l))).bind fun l' => guardR ((scV p).isSome && fitsN l'.length) (.ok (Fl.nx (ρ.set i (some (true, .dict (reD ((.none, .none) :: dL l) (putI l' k p)))))))) = _
    rw [hk]
    show ((optR (unDs (dL l))).bind fun l' => guardR ((scV p).isSome && fitsN l'.length) (.ok (Fl.nx (ρ.set i (some (true, .dict (reD ((.none, .none) :: dL l) (putI l' j p)))))))) = _
    rw [unDs_dL hl]
    show guardR ((scV p).isSome && fitsN l.length) (.ok (Fl.nx (ρ.set i (some (true, .dict (reD ((.none, .none) :: dL l) (putI l j p))))))) = _
    rw [hs, show fitsN l.length = true from decide_eq_true hz, reD_mk, ← hρ]; rfl
  unfold T
  rw [evSs_c, this]
  exact h
theorem t_sub {i j : Nat} {k : Int} {ke e : E} {p : PyData} {xs : List PyData} (he : evE Φ e ρ = .ok p) (hi : ρ[i]? = some (some (true, .list xs))) (hk : evE Φ ke ρ = .ok (.int k)) (hj : ixN xs.length k = some j) (hn : noList p = true) (hρ : ρ.set i (some (true, .list (xs.set j p))) = ρ1) (h : T (evSs Φ w ss ρ1) Q) : T (evSs Φ w (.sub i ke e :: ss) ρ) Q := by
  have : evS Φ w (.sub i ke e) ρ = .ok (.nx ρ1) := by
    rw [x_sub, he, bind_ok, hi, ownR_s, hk, bind_ok, intV_i, bind_ok, hj, optR_some, bind_ok, hn, Bool.true_or, guard_true, if_pos rfl]
    show R.ok (Fl.nx (ρ.set i (some (true, .list (xs.set j p))))) = _
    rw [hρ]
  unfold T
  rw [evSs_c, this]
  exact h
theorem e_chain {o o' : Cm} {a b c : E} : evE Φ (.chain o o' a b c) ρ = (evE Φ a ρ).bind fun x => (evE Φ b ρ).bind fun y => (cmV o x y).bind fun z => (boolV z).bind fun k => if k = true then (evE Φ c ρ).bind fun u => cmV o' y u else .ok (.bool false) := rfl
/-! loops -/
theorem for_go {body : PEnv → R Fl} {tg : Tg} {K : PEnv → Prop} {k : PEnv → R Fl} (hK : ∀ ρ, K ρ → T (k ρ) Q) (I : Nat → PEnv → Prop) : ∀ (items : List PyData) (j : Nat) (ρ : PEnv), I j ρ →
    (∀ i x ρ, items[i]? = some x → I (j + i) ρ → ∃ ρ1, setTg tg false x ρ = .ok ρ1 ∧ Lp (I (j + i + 1)) K Q (body ρ1)) → (∀ ρ', I (j + items.length) ρ' → T (k ρ') Q) → T (seqF (forGo body tg items ρ) k) Q
  | [], j, ρ, h, _, hk => hk ρ h
  | x :: xs, j, ρ, h, hs, hk => by
    obtain ⟨ρ1, e1, e2⟩ := hs 0 x ρ rfl h
    rw [for_cons, e1, bind_ok]
    cases hb : body ρ1 with
    | bad => rw [hb] at e2; exact e2.elim
    | ex c as => rw [hb] at e2; exact e2
    | ok fl =>
      rw [hb] at e2
      have go : ∀ ρ2, I (j + 0 + 1) ρ2 → T (seqF (forGo body tg xs ρ2) k) Q := fun ρ2 h2 =>
        for_go hK I xs (j + 1) ρ2 h2 (fun i y ρ hy hi => by
          have := hs (i + 1) y ρ hy (by rw [show j + (i + 1) = j + 1 + i by omega]; exact hi)
          rw [show j + (i + 1) + 1 = j + 1 + i + 1 by omega] at this
          exact this) (fun ρ' h' => hk ρ' (by rw [show j + (x :: xs).length = j + 1 + xs.length by simp; omega]; exact h'))
      cases fl with
      | nx ρ2 => rw [loopF_nx]; exact go ρ2 e2
      | ct ρ2 => rw [loopF_ct]; exact go ρ2 e2
      | bk ρ2 => rw [loopF_bk, seqF_nx]; exact hK ρ2 e2
      | rt p => rw [loopF_rt, seqF_rt]; exact e2
/-- a loop over items, with the number of turns done -/
theorem t_for {tg : Tg} {s : Src} {es : List E} {b : List S} {ps items : List PyData} {I : Nat → PEnv → Prop} {K : PEnv → Prop} (he : evEs Φ es ρ = .ok ps) (hi : srcItems s ps = .ok items) (hρ : share (lks es) ρ = ρ1) (h0 : I 0 ρ1)
    (hs : ∀ i x ρ, items[i]? = some x → I i ρ → ∃ ρ1, setTg tg false x ρ = .ok ρ1 ∧ T (evSs Φ w b ρ1) (Lp (I (i + 1)) K Q)) (hK : ∀ ρ, K ρ → T (evSs Φ w ss ρ) Q) (hk : ∀ ρ', I items.length ρ' → T (evSs Φ w ss ρ') Q) : T (evSs Φ w (.loop tg s es b :: ss) ρ) Q := by
  rw [evSs_c, x_loop, he, bind_ok, hi, bind_ok, hρ]
  refine for_go hK I items 0 ρ1 h0 ?_ ?_
  · intro i x ρ hx h
    rw [Nat.zero_add] at h ⊢
    exact hs i x ρ hx h
  · intro ρ' h
    rw [Nat.zero_add] at h
    exact hk ρ' h
theorem range_get {lo : Int} {n i : Nat} {x : PyData} (h : (rangeP lo n 1)[i]? = some x) : i < n ∧ x = .int (lo + i) := by
  unfold rangeP at h
  rw [List.getElem?_map] at h
  by_cases hi : i < n
  · rw [List.getElem?_range hi] at h
    refine ⟨hi, ?_⟩
    have := (Option.some.inj h).symm
    rw [this]
    show PyData.int (lo + (i : Int) * 1) = _
    rw [Int.mul_one]
  · rw [List.getElem?_eq_none (by rw [List.length_range]; omega)] at h
    cases h
theorem rangeP_length (lo c : Int) (n : Nat) : (rangeP lo n c).length = n := by unfold rangeP; rw [List.length_map, List.length_range]
theorem ends_n {α : Type} {n : Nat} {r : R α} (h : n ≤ 16000000) : guardR (ends62 n) r = r := by
  refine guard_of _ ?_
  unfold ends62
  rw [decide_eq_true (show -(2 ^ 62) ≤ (n : Int) by omega), decide_eq_true (show (n : Int) < 2 ^ 62 by omega)]; rfl
/-- for x in range(a, b) -/
theorem t_for2 {v : Nat} {ea eb : E} {b : List S} {lo hi : Int} {I : Nat → PEnv → Prop} {K : PEnv → Prop} (ha : evE Φ ea ρ = .ok (.int lo)) (he : evE Φ eb ρ = .ok (.int hi)) (h1 : -16000000 ≤ lo ∧ lo ≤ 16000000) (h2 : -16000000 ≤ hi ∧ hi ≤ 16000000) (hρ : share (lk ea ++ (lk eb ++ [])) ρ = ρ1) (h0 : I 0 ρ1)
    (hs : ∀ (i : Nat) ρ, lo + i < hi → I i ρ → T (evSs Φ w b (ρ.set v (some (false, .int (lo + i))))) (Lp (I (i + 1)) K Q)) (hK : ∀ ρ, K ρ → T (evSs Φ w ss ρ) Q) (hk : ∀ ρ', I (hi - lo).toNat ρ' → T (evSs Φ w ss ρ') Q) : T (evSs Φ w (.loop (.nm v) .rng2 [ea, eb] b :: ss) ρ) Q := by
  refine t_for (ps := [.int lo, .int hi]) (items := rangeP lo (hi - lo).toNat 1) (I := I) (K := K) ?_ ?_ hρ h0 ?_ hK ?_
  · rw [es_cons, ha, bind_ok, es_cons, he]; rfl
  · show guardR (ends62 lo && ends62 hi) _ = _
    refine guard_of _ ?_
    unfold ends62
    simp only [Bool.and_eq_true, decide_eq_true_eq]
    omega
  · intro i x ρ hx h
    obtain ⟨h1, rfl⟩ := range_get hx
    exact ⟨_, rfl, hs i ρ (by omega) h⟩
  · rw [rangeP_length]; exact hk
/-- for x in a list or tuple of typed items -/
theorem t_forL {α : Type} {v : Nat} {e : E} {b : List S} {p : PyData} (l : List α) (en : α → PyData) {I : Nat → PEnv → Prop} {K : PEnv → Prop} (he : evE Φ e ρ = .ok p) (hp : p = .tuple (l.map en) ∨ p = .list (l.map en)) (hρ : share (lk e ++ []) ρ = ρ1) (h0 : I 0 ρ1)
    (hs : ∀ (i : Nat) (a : α) ρ, l[i]? = some a → I i ρ → T (evSs Φ w b (ρ.set v (some (false, en a)))) (Lp (I (i + 1)) K Q)) (hK : ∀ ρ, K ρ → T (evSs Φ w ss ρ) Q) (hk : ∀ ρ', I l.length ρ' → T (evSs Φ w ss ρ') Q) : T (evSs Φ w (.loop (.nm v) .seq [e] b :: ss) ρ) Q := by
  refine t_for (ps := [p]) (items := l.map en) (I := I) (K := K) ?_ ?_ hρ h0 ?_ hK ?_
  · rw [es_cons, he]; rfl
  · rcases hp with rfl | rfl <;> rfl
  · intro i x ρ hx h
    rw [List.getElem?_map] at hx
    cases hl : l[i]? with
    | none => rw [hl] at hx; cases hx
    | some a =>
      rw [hl] at hx
      have := Option.some.inj hx
      subst this
      exact ⟨_, rfl, hs i a ρ hl h⟩
  · rw [List.length_map]; exact hk
theorem t_forT {α : Type} {vs : List Nat} {e : E} {b : List S} {p : PyData} (l : List α) (en : α → List PyData) {I : Nat → PEnv → Prop} {K : PEnv → Prop} (he : evE Φ e ρ = .ok p) (hp : p = .tuple (l.map fun a => .tuple (en a)) ∨ p = .list (l.map fun a => .tuple (en a))) (hρ : share (lk e ++ []) ρ = ρ1) (h0 : I 0 ρ1)
    (hs : ∀ (i : Nat) (a : α) ρ, l[i]? = some a → I i ρ → ∃ ρ2, setAll vs (en a) ρ = .ok ρ2 ∧ T (evSs Φ w b ρ2) (Lp (I (i + 1)) K Q)) (hK : ∀ ρ, K ρ → T (evSs Φ w ss ρ) Q) (hk : ∀ ρ', I l.length ρ' → T (evSs Φ w ss ρ') Q) : T (evSs Φ w (.loop (.tp vs) .seq [e] b :: ss) ρ) Q := by
  refine t_for (ps := [p]) (items := l.map fun a => .tuple (en a)) (I := I) (K := K) ?_ ?_ hρ h0 ?_ hK ?_
  · rw [es_cons, he]; rfl
  · rcases hp with rfl | rfl <;> rfl
  · intro i x ρ hx h
    rw [List.getElem?_map] at hx
    cases hl : l[i]? with
    | none => rw [hl] at hx; cases hx
    | some a =>
      rw [hl] at hx
      have := Option.some.inj hx
      subst this
      exact hs i a ρ hl h
  · rw [List.length_map]; exact hk
/-! comprehensions -/
theorem comp_go {elt : PEnv → R PyData} {cond : PEnv → R Bool} {tg : Tg} {α : Type} (en : α → PyData) (t : α → Bool) (g : α → PyData) : ∀ (l : List α),
    (∀ a, a ∈ l → ∃ ρ1, setTg tg false (en a) ρ = .ok ρ1 ∧ cond ρ1 = .ok (t a) ∧ (t a = true → elt ρ1 = .ok (g a))) → compGo elt cond tg ρ (l.map en) = .ok ((l.filter t).map g)
  | [], _ => rfl
  | x :: xs, h => by
    obtain ⟨ρ1, e1, e2, e3⟩ := h x List.mem_cons_self
    have ih := comp_go en t g xs fun y hy => h y (List.mem_cons_of_mem _ hy)
    rw [List.map_cons]
    unfold compGo
    rw [e1]
    show (cond ρ1).calm.bind _ = _
    rw [e2]
    cases ht : t x with
    | false =>
      rw [List.filter_cons_of_neg (by rw [ht]; decide)]
      exact ih
    | true =>
      rw [List.filter_cons_of_pos ht]
      show (elt ρ1).calm.bind _ = _
      rw [e3 ht]
      show (compGo elt cond tg ρ _).bind _ = _
      rw [ih]; rfl
theorem ev_comp {α : Type} {own : List Nat} {tg : Tg} {s : Src} {es : List E} {c : Option E} {elt : E} {ps : List PyData} (l : List α) (en : α → PyData) {t : α → Bool} {g : α → PyData} (he : evEs Φ es ρ = .ok ps) (hi : srcItems s ps = .ok (l.map en)) (ho : own.all (notOwn ρ) = true) (hl : l.length ≤ 16000000) (hρ : wipeP own (share (lks es) ρ) = ρ1)
    (hg : ∀ a, a ∈ l → ∃ ρ2, setTg tg false (en a) ρ1 = .ok ρ2 ∧ evC Φ c ρ2 = .ok (t a) ∧ (t a = true → evE Φ elt ρ2 = .ok (g a))) : evE Φ (.comp own tg s es c elt) ρ = .ok (.list ((l.filter t).map g)) := by
  rw [e_comp, he, bind_ok, hi, bind_ok, ho, Bool.true_and, List.length_map, (show fitsN l.length = true from decide_eq_true hl), guard_true, hρ, comp_go en t g l hg]
  rfl
theorem filter_tt {α : Type} (l : List α) : l.filter (fun _ => true) = l := by
  induction l with
  | nil => rfl
  | cons a l ih => rw [List.filter_cons_of_pos rfl, ih]
theorem ev_compL {α : Type} {own : List Nat} {v : Nat} {e elt : E} {p : PyData} (l : List α) (en : α → PyData) {g : α → PyData} (he : evE Φ e ρ = .ok p) (hp : p = .tuple (l.map en) ∨ p = .list (l.map en)) (ho : own.all (notOwn ρ) = true) (hl : l.length ≤ 16000000) (hρ : wipeP own (share (lk e ++ []) ρ) = ρ1)
    (hg : ∀ a, a ∈ l → evE Φ elt (ρ1.set v (some (false, en a))) = .ok (g a)) : evE Φ (.comp own (.nm v) .seq [e] none elt) ρ = .ok (.list (l.map g)) := by
  have := ev_comp (Φ := Φ) (ρ := ρ) (own := own) (tg := .nm v) (s := .seq) (es := [e]) (c := none) (elt := elt) (ps := [p]) l en (t := fun _ => true) (g := g) (by rw [es_cons, he]; rfl) (by rcases hp with rfl | rfl <;> rfl) ho hl hρ (fun a ha => ⟨_, rfl, rfl, fun _ => hg a ha⟩)
  rw [filter_tt] at this
  exact this
theorem ev_compF {α : Type} {own : List Nat} {v : Nat} {e elt ce : E} {p : PyData} (l : List α) (en : α → PyData) {t : α → Bool} {g : α → PyData} (he : evE Φ e ρ = .ok p) (hp : p = .tuple (l.map en) ∨ p = .list (l.map en)) (ho : own.all (notOwn ρ) = true) (hl : l.length ≤ 16000000) (hρ : wipeP own (share (lk e ++ []) ρ) = ρ1)
    (hc : ∀ a, a ∈ l → evE Φ ce (ρ1.set v (some (false, en a))) = .ok (.bool (t a))) (hg : ∀ a, a ∈ l → t a = true → evE Φ elt (ρ1.set v (some (false, en a))) = .ok (g a)) : evE Φ (.comp own (.nm v) .seq [e] (some ce) elt) ρ = .ok (.list ((l.filter t).map g)) :=
  ev_comp (Φ := Φ) (ρ := ρ) (own := own) (tg := .nm v) (s := .seq) (es := [e]) (c := some ce) (elt := elt) (ps := [p]) l en (t := t) (g := g) (by rw [es_cons, he]; rfl) (by rcases hp with rfl | rfl <;> rfl) ho hl hρ (fun a ha => ⟨ρ1.set v (some (false, en a)), rfl, by rw [ec_some, hc a ha]; rfl, fun h => hg a ha h⟩)
theorem ev_bi1 {b : Bi} {e : E} {x y : PyData} (he : evE Φ e ρ = .ok x) (hb : biV b [x] = .ok y) : evE Φ (.bi b [e]) ρ = .ok y := by
  rw [e_bi, es_cons, he, bind_ok, es_nil, bind_ok, bind_ok, hb]
theorem ev_tuple {e : E} {xs : List PyData} (he : evE Φ e ρ = .ok (.list xs)) : evE Φ (.bi .tuple1 [e]) ρ = .ok (.tuple xs) := ev_bi1 he rfl
theorem ev_len {e : E} {xs : List PyData} (he : evE Φ e ρ = .ok (.list xs)) : evE Φ (.bi .len [e]) ρ = .ok (.int xs.length) := ev_bi1 he rfl
end
end L2.Pu
namespace L2.Pu
open PySem PySem.Spec PyProof.Rows
/-- a def as a function of its arguments -/
def fn (Φ : Nat → List PyData → R PyData) (k n : Nat) (c : List S) : List PyData → R PyData := fun as => guardR (decide (as.length = k)) (run Φ 1000000 n c as)
theorem call_fn {tab : Nat → Option Df} {n f : Nat} {d : Df} (h : tab f = some d) : call tab 1000000 (n + 1) f = fn (call tab 1000000 n) d.ps d.n d.body := by
  funext as
  show (match tab f with | none => R.bad | some d => _) = _
  rw [h]; rfl
section
variable {Φ : Nat → List PyData → R PyData} {k n : Nat} {c : List S} {as : List PyData} {v : R PyData}
theorem f_run (h : as.length = k) (e : run Φ 1000000 n c as = v) : fn Φ k n c as = v := by
  show guardR _ _ = _
  rw [decide_eq_true h]
  exact e
theorem f_T (h : as.length = k) (e : T (evSs Φ 1000000 c (startP n as)) (fun r => endV r = v)) : fn Φ k n c as = v := f_run h e
end
theorem start_eq (n : Nat) (as : List PyData) : startP n as = as.map (fun p => some (false, p)) ++ List.replicate (n - as.length) none := rfl
theorem cz_0 : ((0 : Nat) : Int) = 0 := rfl
theorem cz_1 : ((1 : Nat) : Int) = 1 := rfl
theorem cz_2 : ((2 : Nat) : Int) = 2 := rfl
theorem cz_3 : ((3 : Nat) : Int) = 3 := rfl
theorem cz_4 : ((4 : Nat) : Int) = 4 := rfl
theorem cz_5 : ((5 : Nat) : Int) = 5 := rfl
theorem cz_6 : ((6 : Nat) : Int) = 6 := rfl
theorem cz_7 : ((7 : Nat) : Int) = 7 := rfl
theorem cz_8 : ((8 : Nat) : Int) = 8 := rfl
/-! places filled one by one -/
/-- goes on, with I -/
def Nxt (I : PEnv → Prop) (r : R Fl) : Prop := ∃ ρ', r = .ok (.nx ρ') ∧ I ρ'
theorem nxt {I : PEnv → Prop} {ρ : PEnv} (h : I ρ) : Nxt I (.ok (.nx ρ)) := ⟨ρ, rfl, h⟩
/-- an if whose two ways meet again -/
theorem t_ifj {Φ : Nat → List PyData → R PyData} {w : Nat} {ρ : PEnv} {Q : R Fl → Prop} {ss : List S} {c : E} {a b : List S} {t : Bool} (I : PEnv → Prop) (hc : evE Φ c ρ = .ok (.bool t)) (h1 : t = true → T (evSs Φ w a ρ) (Nxt I)) (h2 : t = false → T (evSs Φ w b ρ) (Nxt I)) (h : ∀ ρ', I ρ' → T (evSs Φ w ss ρ') Q) : T (evSs Φ w (.ife c a b :: ss) ρ) Q := by
  refine t_ife hc ?_
  unfold T
  rw [evSs_app]
  cases t with
  | true =>
    obtain ⟨ρ', e, g⟩ := h1 rfl
    show Q (seqF (evSs Φ w a ρ) _)
    rw [e, seqF_nx]
    exact h ρ' g
  | false =>
    obtain ⟨ρ', e, g⟩ := h2 rfl
    show Q (seqF (evSs Φ w b ρ) _)
    rw [e, seqF_nx]
    exact h ρ' g
/-! loops over items that are known one by one -/
section
variable {Φ : Nat → List PyData → R PyData} {w : Nat} {ρ : PEnv} {Q : R Fl → Prop} {ss b : List S} {tg : Tg}
/-- what is left of a loop, and behind it -/
def G (Φ : Nat → List PyData → R PyData) (w : Nat) (b : List S) (tg : Tg) (ss : List S) (xs : List PyData) (ρ : PEnv) : R Fl := seqF (forGo (evSs Φ w b) tg xs ρ) (evSs Φ w ss)
end
end L2.Pu
namespace L2.Pu
open PySem PySem.Spec PyProof.Rows
/-! ### statements that raise, try -/
section
variable {Φ : Nat → List PyData → R PyData} {w : Nat} {ρ ρ1 ρ2 : PEnv} {Q : R Fl → Prop} {ss : List S}
theorem e_isx {c : Str} {e : E} : evE Φ (.isx c e) ρ = (evE Φ e ρ).bind (isxV c) := rfl
end
end L2.Pu
namespace L2.Pu
open PySem PySem.Spec PyProof.Rows
theorem band_n (a b : Nat) : Builtin.bitAnd a b = ((a &&& b : Nat) : Int) := by
  rw [bitAnd_pp (by omega) (by omega)]; simp
theorem bxor_n (a b : Nat) : Builtin.bitXor a b = ((a ^^^ b : Nat) : Int) := by
  rw [Bits.bitXor_pp (by omega) (by omega)]; simp
theorem bor_n (a b : Nat) : Builtin.bitOr a b = ((a ||| b : Nat) : Int) := by
  rw [Bits.bitOr_pp (by omega) (by omega)]; simp
/-! lists over places -/
theorem at_n {α : Type} {l : List α} {k : Nat} (h : k < l.length) : atI l k = some l[k] := by
  unfold atI ixN
  rw [if_pos (by omega), if_pos (by omega), Int.toNat_natCast]
  exact List.getElem?_eq_getElem h
theorem ixN_n {n k : Nat} (h : k < n) : ixN n k = some k := by
  unfold ixN
  rw [if_pos (by omega), if_pos (by omega), Int.toNat_natCast]
theorem at_rg {α : Type} {f : Nat → α} {n k : Nat} (h : k < n) : atI ((List.range n).map f) k = some (f k) := by
  rw [at_n (by rw [List.length_map, List.length_range]; exact h), List.getElem_map, List.getElem_range]
theorem rg_len {α : Type} {f : Nat → α} {n : Nat} : ((List.range n).map f).length = n := by rw [List.length_map, List.length_range]
theorem nls_map {α : Type} {f : α → PyData} (h : ∀ a, noList (f a) = true) : ∀ l : List α, noLists (l.map f) = true
  | [] => rfl
  | a :: l => by
    show (noList (f a) && noLists (l.map f)) = true
    rw [h a, nls_map h l]; rfl
end L2.Pu
namespace L2.Pu
open PySem PySem.Spec PyProof.Rows
/-! ### data of numbers and texts: equality -/
mutual
/-- numbers, texts, tuples, lists alone, not deeper than n -/
def sS : Nat → PyData → Bool
  | _, .int _ => true
  | _, .str x => PyData.strOk x
  | n + 1, .list ps => sSs n ps
  | n + 1, .tuple ps => sSs n ps
  | _, _ => false
def sSs : Nat → List PyData → Bool
  | _, [] => true
  | n, p :: ps => sS n p && sSs n ps
end
theorem sS_int {n : Nat} {i : Int} : sS n (.int i) = true := by cases n <;> (unfold sS; rfl)
theorem sS_tup {n : Nat} {ps : List PyData} (h : sSs n ps = true) : sS (n + 1) (.tuple ps) = true := by unfold sS; exact h
theorem sSs_nil {n : Nat} : sSs n [] = true := by unfold sSs; rfl
theorem sSs_cons {n : Nat} {p : PyData} {ps : List PyData} (h : sS n p = true) (g : sSs n ps = true) : sSs n (p :: ps) = true := by unfold sSs; rw [h, g]; rfl
theorem sSs_all {n : Nat} : ∀ {ps : List PyData}, (∀ p, p ∈ ps → sS n p = true) → sSs n ps = true
  | [], _ => sSs_nil
  | p :: ps, h => sSs_cons (h p List.mem_cons_self) (sSs_all fun q hq => h q (List.mem_cons_of_mem _ hq))
mutual
theorem sS_ok : ∀ (n : Nat) (p : PyData), sS n p = true → p.canLay0 = true ∧ p.depth ≤ n
  | _, .int _, _ => ⟨rfl, Nat.zero_le _⟩
  | n, .str x, h => ⟨by cases n <;> (unfold sS at h; unfold PyData.canLay0; exact h), by unfold PyData.depth; exact Nat.zero_le _⟩
  | 0, .none, h => by unfold sS at h; cases h
  | n + 1, .none, h => by unfold sS at h; cases h
  | 0, .bool _, h => by unfold sS at h; cases h
  | n + 1, .bool _, h => by unfold sS at h; cases h
  | 0, .dict _, h => by unfold sS at h; cases h
  | n + 1, .dict _, h => by unfold sS at h; cases h
  | 0, .list _, h => by unfold sS at h; cases h
  | 0, .tuple _, h => by unfold sS at h; cases h
  | n + 1, .list ps, h => by
    unfold sS at h
    obtain ⟨h1, h2⟩ := sSs_ok n ps h
    exact ⟨by unfold PyData.canLay0; exact h1, by unfold PyData.depth; omega⟩
  | n + 1, .tuple ps, h => by
    unfold sS at h
    obtain ⟨h1, h2⟩ := sSs_ok n ps h
    exact ⟨by unfold PyData.canLay0; exact h1, by unfold PyData.depth; omega⟩
theorem sSs_ok : ∀ (n : Nat) (ps : List PyData), sSs n ps = true → PyData.canLayAll0 ps = true ∧ PyData.depthAll ps ≤ n
  | _, [], _ => ⟨by unfold PyData.canLayAll0; rfl, by unfold PyData.depthAll; exact Nat.zero_le _⟩
  | n, p :: ps, h => by
    unfold sSs at h
    rw [Bool.and_eq_true] at h
    obtain ⟨a1, a2⟩ := sS_ok n p h.1
    obtain ⟨b1, b2⟩ := sSs_ok n ps h.2
    refine ⟨by unfold PyData.canLayAll0; rw [a1, b1]; rfl, by unfold PyData.depthAll; exact Nat.max_le.mpr ⟨a2, b2⟩⟩
end
theorem shaped_sS {p : PyData} (h : sS 60 p = true) : SeqAt.shaped p = true := by
  obtain ⟨h1, h2⟩ := sS_ok 60 p h
  unfold SeqAt.shaped
  rw [h1]
  exact decide_eq_true (by omega)
mutual
theorem eqv_sS : ∀ (n m : Nat) (p q : PyData), sS n p = true → sS m q = true → (PyData.eqv p q = true ↔ p = q)
  | n, m, .int i, q, _, hq => by
    cases q with
    | int j => unfold PyData.eqv; simp
    | str x => unfold PyData.eqv; simp
    | list qs => unfold PyData.eqv; simp
    | tuple qs => unfold PyData.eqv; simp
    | none => cases m <;> (unfold sS at hq; cases hq)
    | bool b => cases m <;> (unfold sS at hq; cases hq)
    | dict _ => cases m <;> (unfold sS at hq; cases hq)
  | n, m, .str x, q, _, hq => by
    cases q with
    | int j => unfold PyData.eqv; simp
    | str y => unfold PyData.eqv; simp
    | list qs => unfold PyData.eqv; simp
    | tuple qs => unfold PyData.eqv; simp
    | none => cases m <;> (unfold sS at hq; cases hq)
    | bool b => cases m <;> (unfold sS at hq; cases hq)
    | dict _ => cases m <;> (unfold sS at hq; cases hq)
  | 0, _, .none, _, h, _ => by unfold sS at h; cases h
  | n + 1, _, .none, _, h, _ => by unfold sS at h; cases h
  | 0, _, .bool _, _, h, _ => by unfold sS at h; cases h
  | n + 1, _, .bool _, _, h, _ => by unfold sS at h; cases h
  | 0, _, .dict _, _, h, _ => by unfold sS at h; cases h
  | n + 1, _, .dict _, _, h, _ => by unfold sS at h; cases h
  | 0, _, .list _, _, h, _ => by unfold sS at h; cases h
  | 0, _, .tuple _, _, h, _ => by unfold sS at h; cases h
  | n + 1, m, .list ps, q, hp, hq => by
    cases q with
    | int j => unfold PyData.eqv; simp
    | str y => unfold PyData.eqv; simp
    | list qs =>
      cases m with
      | zero => unfold sS at hq; cases hq
      | succ m =>
        unfold sS at hp hq
        unfold PyData.eqv
        rw [eqvs_sS n m ps qs hp hq]
        simp
    | tuple qs => unfold PyData.eqv; simp
    | none => cases m <;> (unfold sS at hq; cases hq)
    | bool b => cases m <;> (unfold sS at hq; cases hq)
    | dict _ => cases m <;> (unfold sS at hq; cases hq)
  | n + 1, m, .tuple ps, q, hp, hq => by
    cases q with
    | int j => unfold PyData.eqv; simp
    | str y => unfold PyData.eqv; simp
    | list qs => unfold PyData.eqv; simp
    | tuple qs =>
      cases m with
      | zero => unfold sS at hq; cases hq
      | succ m =>
        unfold sS at hp hq
        unfold PyData.eqv
        rw [eqvs_sS n m ps qs hp hq]
        simp
    | none => cases m <;> (unfold sS at hq; cases hq)
    | bool b => cases m <;> (unfold sS at hq; cases hq)
    | dict _ => cases m <;> (unfold sS at hq; cases hq)
theorem eqvs_sS : ∀ (n m : Nat) (ps qs : List PyData), sSs n ps = true → sSs m qs = true → (PyData.eqvAll ps qs = true ↔ ps = qs)
  | _, _, [], [], _, _ => by unfold PyData.eqvAll; simp
  | _, _, [], _ :: _, _, _ => by unfold PyData.eqvAll; simp
  | _, _, _ :: _, [], _, _ => by unfold PyData.eqvAll; simp
  | n, m, p :: ps, q :: qs, hp, hq => by
    unfold sSs at hp hq
    rw [Bool.and_eq_true] at hp hq
    unfold PyData.eqvAll
    rw [Bool.and_eq_true, eqv_sS n m p q hp.1 hq.1, eqvs_sS n m ps qs hp.2 hq.2, List.cons.injEq]
end
theorem eqV2_sS {p q : PyData} (hp : sS 60 p = true) (hq : sS 60 q = true) [Decidable (p = q)] : eqV2 p q = .ok (decide (p = q)) := by
  have e : PyData.eqv p q = decide (p = q) := by
    by_cases h : p = q
    · rw [decide_eq_true h]; exact (eqv_sS 60 60 p q hp hq).mpr h
    · rw [decide_eq_false h]
      exact Bool.eq_false_iff.mpr fun z => h ((eqv_sS 60 60 p q hp hq).mp z)
  have g : guardR (SeqAt.shaped p && SeqAt.shaped q) (.ok (PyData.eqv p q)) = R.ok (decide (p = q)) := by
    rw [shaped_sS hp, shaped_sS hq, e]; rfl
  cases p with
  | int i => cases q with
    | int j =>
      show R.ok (decide (i = j)) = _
      congr 1
    | _ => exact g
  | str x => cases q with
    | str y =>
      show R.ok (decide (x = y)) = _
      congr 1
    | _ => exact g
  | _ => exact g
theorem cm_ne_sS {p q : PyData} (hp : sS 60 p = true) (hq : sS 60 q = true) [Decidable (p = q)] : cmV .ne p q = .ok (.bool (!decide (p = q))) := by
  show (eqV2 p q).bind _ = _
  rw [eqV2_sS hp hq]; rfl
theorem cm_ne_self {p : PyData} (hp : sS 60 p = true) : cmV .ne p p = .ok (.bool false) := by
  have := Classical.propDecidable
  rw [cm_ne_sS hp hp, decide_eq_true rfl]; rfl
theorem cm_ne_not {p q : PyData} (hp : sS 60 p = true) (hq : sS 60 q = true) (h : p ≠ q) : cmV .ne p q = .ok (.bool true) := by
  have := Classical.propDecidable
  rw [cm_ne_sS hp hq, decide_eq_false h]; rfl
end L2.Pu
namespace L2.Pu.Law
open PySem PySem.Spec PyProof.Rows
local macro_rules | `(tactic| nest_room) => `(tactic| first | rfl | assumption | (simp only [nl_tup, nls_nil, nls_cons, nl_int, nl_bool, nl_str, nl_none, Bool.and_true, Bool.and_self, *] <;> rfl))
local macro_rules | `(tactic| tb_start) => `(tactic| first | (simp (maxSteps := 400000) (disch := first | omega | assumption) only [List.getElem?_cons_zero, List.getElem?_cons_succ, Int.natCast_inj, Int.ofNat_lt, Int.ofNat_le, band_n, bor_n, bxor_n, cz_0, cz_1, cz_2, cz_3, cz_4, cz_5, cz_6, cz_7, cz_8, String.reduceEq, List.length_set, List.length_range, rg_len, at_rg, ixN_n, Int.toNat_natCast, Int.reduceToNat, g_mulS, bind_ite, bind_guard, bind_ok, varR_s, ownR_s, e_var, e_cst, e_bin, e_neg, e_nt, e_conj, e_disj, e_ife, e_cmp, e_chain, e_tup, e_lst, e_rep, e_idx, e_sl, e_call, e_bi, e_lenN, e_sset, e_lrev, e_isi, e_isx, e_comp, es_nil, es_cons, eo_none, eo_some, ec_none, ec_some, isi_int_int, isi_int_bool, isi_tup_tup, isi_tup_int, isi_bool_bool, isi_bool_int, isi_lst_lst, isi_str_str, isi_tup_lst, isi_lst_tup, boolV_b, intV_i, notV_b, negV_i, op_ii, op_i_add, op_i_sub, op_i_mul, op_i_fdiv, op_i_mod, op_i_pow, op_i_shl, op_i_shr, op_i_band, op_i_bor, op_i_bxor, op_tt, op_ll, cm_eq_bb, cm_ne_bb, cm_eq_ii, cm_ne_ii, cm_eq_ss, cm_ne_ss, cm_lt, cm_le, cm_gt, cm_ge, cm_eq_tt, cm_ne_tt, cm_eq_ll, cm_ne_ll, cm_isn, cm_notn, bi_len_l, bi_len_t, bi_list_l, bi_list_t, bi_tup_l, bi_tup_t, bi_max, bi_min, bi_int_i, bi_int_b, ix_t, ix_l, sl_t, sl_l, at_0, at_1, at_2, at_3, at_4, at_5, optR_some, src_t, src_l, src_r1, src_r2, src_r3, set_nm, set_tp, setA_nil, setA_cons, share_nil, nl_int, nl_bool, nl_str, nl_none, nl_tup, nls_nil, nls_cons, nl_list, il_list, il_tup, il_int, il_bool, il_str, il_none, ite_tt, ite_ff, calm_ok, guard_true, fresh, lk, lkI, lks, List.map_cons, List.map_nil, List.length_cons, List.length_nil, List.length_map, List.cons_append, List.nil_append, List.append_nil, List.set_cons_zero, List.set_cons_succ, List.replicate_succ, List.replicate_zero, Nat.reduceSub, Nat.reduceAdd, Nat.zero_add, Bool.and_true, Bool.true_and, Bool.not_true, Bool.not_false, Bool.or_true, Bool.true_or, Bool.false_or, Bool.or_false, Bool.and_false, Bool.false_and, if_true, if_false, Bool.false_eq_true, decide_eq_true_eq, Bool.not_eq_true', decide_eq_false_iff_not, reduceIte, decide_true, decide_false, g_pow2, cg_nil, cg_cons, rg_0, rg_1, rg_2, rg_3, rg_4, rg_5, rg_6, rg_7, rg_8, wipe_nil, wipe_cons, no_u, no_0, no_1, all_nil, all_cons, ea_nil, ea_cons, ev_int, cut_4, cut_01, g_pow10, g_lg, g_nab, g_le, g_lt, g_10, sh_t1, sh_l1, sh_t2, sh_l2, sh_t3, sh_l3, sh_t4, sh_l4, sh_t5, sh_l5, sh_t6, sh_l6, eq_self, xn4_0, xn4_1, xn4_2, xn4_3, g_mod, g_shr, g_fdiv, g_shl, g_mul, g_fits, g_ends, g_rng3, g_and, nn0, nn1, nn2, nn3, nn4, nn5, nn6, share_cons, mod_zero, mod_succ, share1_s, share1_n, bind_ok, Int.reduceNeg, Int.reduceLT, Int.reduceLE, Int.reduceEq, Int.reduceNe, not_true_eq_false, not_false_eq_true, Int.reduceAdd, Int.reduceSub, Int.reduceMul, Int.reduceMod, Int.reduceDiv, Bool.and_eq_true, Int.zero_add, Int.add_zero, Int.mul_one, Int.one_mul, Nat.reduceEqDiff, reduceCtorEq, List.contains_nil, List.elem_nil, *] <;> rfl) | rfl)
local macro_rules | `(tactic| tb_rel) => `(tactic| first
  | refine t_asg_n (by tb_start) (by nest_room) (by (simp only [List.set_cons_zero, List.set_cons_succ] <;> rfl)) ?_
  | refine t_asg_l (by tb_start) (by (simp only [lk, lkI, lks, fresh, share_nil, share_cons, mod_zero, mod_succ, share1_s, share1_n, List.nil_append, List.append_nil, List.cons_append, List.set_cons_zero, List.set_cons_succ] <;> rfl)) ?_
  | refine t_ife (by tb_start) ?_; try simp only [cond_true, cond_false, List.nil_append, List.cons_append, List.append_nil]
  | refine t_ret (by tb_start) ?_
  | refine t_retf (by tb_start) (by rfl) ?_
  | refine t_app (by rfl) (by tb_start) (by (first | omega | assumption)) (by nest_room) (by (simp only [List.set_cons_zero, List.set_cons_succ] <;> rfl)) ?_
  | refine t_asg_tp (by tb_start) (by nest_room) (by (simp only [setA_nil, setA_cons, List.set_cons_zero, List.set_cons_succ] <;> rfl)) ?_
  | refine t_brk ?_
  | refine t_cnt ?_
  | refine t_pass ?_
  | refine t_drop (by tb_start) ?_
  | refine t_sub (by tb_start) (by rfl) (by tb_start) (by tb_start) (by nest_room) (by (simp only [List.set_cons_zero, List.set_cons_succ] <;> rfl)) ?_
  | ((first | apply t_ife | apply t_ret | apply t_retf | apply t_sub | apply t_app | apply t_asg_tp | apply t_asg_n | apply t_drop); (try simp (maxSteps := 400000) (disch := first | omega | assumption) only [List.getElem?_cons_zero, List.getElem?_cons_succ, Int.natCast_inj, Int.ofNat_lt, Int.ofNat_le, band_n, bor_n, bxor_n, cz_0, cz_1, cz_2, cz_3, cz_4, cz_5, cz_6, cz_7, cz_8, String.reduceEq, List.length_set, List.length_range, rg_len, at_rg, ixN_n, Int.toNat_natCast, Int.reduceToNat, g_mulS, bind_ite, bind_guard, bind_ok, varR_s, ownR_s, e_var, e_cst, e_bin, e_neg, e_nt, e_conj, e_disj, e_ife, e_cmp, e_chain, e_tup, e_lst, e_rep, e_idx, e_sl, e_call, e_bi, e_lenN, e_sset, e_lrev, e_isi, e_isx, e_comp, es_nil, es_cons, eo_none, eo_some, ec_none, ec_some, isi_int_int, isi_int_bool, isi_tup_tup, isi_tup_int, isi_bool_bool, isi_bool_int, isi_lst_lst, isi_str_str, isi_tup_lst, isi_lst_tup, boolV_b, intV_i, notV_b, negV_i, op_ii, op_i_add, op_i_sub, op_i_mul, op_i_fdiv, op_i_mod, op_i_pow, op_i_shl, op_i_shr, op_i_band, op_i_bor, op_i_bxor, op_tt, op_ll, cm_eq_bb, cm_ne_bb, cm_eq_ii, cm_ne_ii, cm_eq_ss, cm_ne_ss, cm_lt, cm_le, cm_gt, cm_ge, cm_eq_tt, cm_ne_tt, cm_eq_ll, cm_ne_ll, cm_isn, cm_notn, bi_len_l, bi_len_t, bi_list_l, bi_list_t, bi_tup_l, bi_tup_t, bi_max, bi_min, bi_int_i, bi_int_b, ix_t, ix_l, sl_t, sl_l, at_0, at_1, at_2, at_3, at_4, at_5, optR_some, src_t, src_l, src_r1, src_r2, src_r3, set_nm, set_tp, setA_nil, setA_cons, share_nil, nl_int, nl_bool, nl_str, nl_none, nl_tup, nls_nil, nls_cons, nl_list, il_list, il_tup, il_int, il_bool, il_str, il_none, ite_tt, ite_ff, calm_ok, guard_true, fresh, lk, lkI, lks, List.map_cons, List.map_nil, List.length_cons, List.length_nil, List.length_map, List.cons_append, List.nil_append, List.append_nil, List.set_cons_zero, List.set_cons_succ, List.replicate_succ, List.replicate_zero, Nat.reduceSub, Nat.reduceAdd, Nat.zero_add, Bool.and_true, Bool.true_and, Bool.not_true, Bool.not_false, Bool.or_true, Bool.true_or, Bool.false_or, Bool.or_false, Bool.and_false, Bool.false_and, if_true, if_false, Bool.false_eq_true, decide_eq_true_eq, Bool.not_eq_true', decide_eq_false_iff_not, reduceIte, decide_true, decide_false, g_pow2, cg_nil, cg_cons, rg_0, rg_1, rg_2, rg_3, rg_4, rg_5, rg_6, rg_7, rg_8, wipe_nil, wipe_cons, no_u, no_0, no_1, all_nil, all_cons, ea_nil, ea_cons, ev_int, cut_4, cut_01, g_pow10, g_lg, g_nab, g_le, g_lt, g_10, sh_t1, sh_l1, sh_t2, sh_l2, sh_t3, sh_l3, sh_t4, sh_l4, sh_t5, sh_l5, sh_t6, sh_l6, eq_self, xn4_0, xn4_1, xn4_2, xn4_3, g_mod, g_shr, g_fdiv, g_shl, g_mul, g_fits, g_ends, g_rng3, g_and, nn0, nn1, nn2, nn3, nn4, nn5, nn6, share_cons, mod_zero, mod_succ, share1_s, share1_n, bind_ok, Int.reduceNeg, Int.reduceLT, Int.reduceLE, Int.reduceEq, Int.reduceNe, not_true_eq_false, not_false_eq_true, Int.reduceAdd, Int.reduceSub, Int.reduceMul, Int.reduceMod, Int.reduceDiv, Bool.and_eq_true, Int.zero_add, Int.add_zero, Int.mul_one, Int.one_mul, Nat.reduceEqDiff, reduceCtorEq, List.contains_nil, List.elem_nil, *]))
  | refine t_nil ?_)
local macro_rules | `(tactic| wide_open using [$fs,*]) => `(tactic| first | (simp (maxSteps := 400000) (disch := first | omega | assumption) only [List.getElem?_cons_zero, List.getElem?_cons_succ, Int.natCast_inj, Int.ofNat_lt, Int.ofNat_le, band_n, bor_n, bxor_n, cz_0, cz_1, cz_2, cz_3, cz_4, cz_5, cz_6, cz_7, cz_8, String.reduceEq, List.length_set, List.length_range, rg_len, at_rg, ixN_n, Int.toNat_natCast, Int.reduceToNat, g_mulS, bind_ite, bind_guard, bind_ok, varR_s, ownR_s, e_var, e_cst, e_bin, e_neg, e_nt, e_conj, e_disj, e_ife, e_cmp, e_chain, e_tup, e_lst, e_rep, e_idx, e_sl, e_call, e_bi, e_lenN, e_sset, e_lrev, e_isi, e_isx, e_comp, es_nil, es_cons, eo_none, eo_some, ec_none, ec_some, isi_int_int, isi_int_bool, isi_tup_tup, isi_tup_int, isi_bool_bool, isi_bool_int, isi_lst_lst, isi_str_str, isi_tup_lst, isi_lst_tup, boolV_b, intV_i, notV_b, negV_i, op_ii, op_i_add, op_i_sub, op_i_mul, op_i_fdiv, op_i_mod, op_i_pow, op_i_shl, op_i_shr, op_i_band, op_i_bor, op_i_bxor, op_tt, op_ll, cm_eq_bb, cm_ne_bb, cm_eq_ii, cm_ne_ii, cm_eq_ss, cm_ne_ss, cm_lt, cm_le, cm_gt, cm_ge, cm_eq_tt, cm_ne_tt, cm_eq_ll, cm_ne_ll, cm_isn, cm_notn, bi_len_l, bi_len_t, bi_list_l, bi_list_t, bi_tup_l, bi_tup_t, bi_max, bi_min, bi_int_i, bi_int_b, ix_t, ix_l, sl_t, sl_l, at_0, at_1, at_2, at_3, at_4, at_5, optR_some, src_t, src_l, src_r1, src_r2, src_r3, set_nm, set_tp, setA_nil, setA_cons, share_nil, nl_int, nl_bool, nl_str, nl_none, nl_tup, nls_nil, nls_cons, nl_list, il_list, il_tup, il_int, il_bool, il_str, il_none, ite_tt, ite_ff, calm_ok, guard_true, fresh, lk, lkI, lks, List.map_cons, List.map_nil, List.length_cons, List.length_nil, List.length_map, List.cons_append, List.nil_append, List.append_nil, List.set_cons_zero, List.set_cons_succ, List.replicate_succ, List.replicate_zero, Nat.reduceSub, Nat.reduceAdd, Nat.zero_add, Bool.and_true, Bool.true_and, Bool.not_true, Bool.not_false, Bool.or_true, Bool.true_or, Bool.false_or, Bool.or_false, Bool.and_false, Bool.false_and, if_true, if_false, Bool.false_eq_true, decide_eq_true_eq, Bool.not_eq_true', decide_eq_false_iff_not, reduceIte, decide_true, decide_false, g_pow2, cg_nil, cg_cons, rg_0, rg_1, rg_2, rg_3, rg_4, rg_5, rg_6, rg_7, rg_8, wipe_nil, wipe_cons, no_u, no_0, no_1, all_nil, all_cons, ea_nil, ea_cons, ev_int, cut_4, cut_01, g_pow10, g_lg, g_nab, g_le, g_lt, g_10, sh_t1, sh_l1, sh_t2, sh_l2, sh_t3, sh_l3, sh_t4, sh_l4, sh_t5, sh_l5, sh_t6, sh_l6, eq_self, xn4_0, xn4_1, xn4_2, xn4_3, g_mod, g_shr, g_fdiv, g_shl, g_mul, g_fits, g_ends, g_rng3, g_and, nn0, nn1, nn2, nn3, nn4, nn5, nn6, share_cons, mod_zero, mod_succ, share1_s, share1_n, bind_ok, Int.reduceNeg, Int.reduceLT, Int.reduceLE, Int.reduceEq, Int.reduceNe, not_true_eq_false, not_false_eq_true, Int.reduceAdd, Int.reduceSub, Int.reduceMul, Int.reduceMod, Int.reduceDiv, Bool.and_eq_true, Int.zero_add, Int.add_zero, Int.mul_one, Int.one_mul, Nat.reduceEqDiff, reduceCtorEq, List.contains_nil, List.elem_nil, $[$fs:term],*] <;> rfl) | rfl)
local macro_rules
  | `(tactic| wide_open with (n $p) using [$fs,*]) => `(tactic| (refine t_asg_n (p := $p) (by wide_open using [$fs,*]) (by nest_room) (by first | rfl | (simp only [List.set_cons_zero, List.set_cons_succ] <;> rfl)) ?_; try simp only [List.set_cons_zero, List.set_cons_succ]))
  | `(tactic| wide_open with (l $p) using [$fs,*]) => `(tactic| (refine t_asg_l (ps := $p) (by wide_open using [$fs,*]) (by (simp only [lk, lkI, lks, fresh, share_nil, share_cons, mod_zero, mod_succ, share1_s, share1_n, List.nil_append, List.append_nil, List.cons_append, List.set_cons_zero, List.set_cons_succ] <;> rfl)) ?_; try simp only [List.set_cons_zero, List.set_cons_succ]))
  | `(tactic| wide_open with (c $p) using [$fs,*]) => `(tactic| (refine t_ife (t := $p) (by wide_open using [$fs,*]) ?_; try simp only [cond_true, cond_false, List.nil_append, List.cons_append, List.append_nil]))
  | `(tactic| wide_open with (u $p) using [$fs,*]) => `(tactic| (refine t_asg_tp (ps := $p) (by wide_open using [$fs,*]) (by nest_room) (by first | rfl | (simp only [setA_nil, setA_cons, List.set_cons_zero, List.set_cons_succ] <;> rfl)) ?_; try simp only [List.set_cons_zero, List.set_cons_succ]))
  | `(tactic| wide_open with (r $p) using [$fs,*]) => `(tactic| refine t_ret (p := $p) (by wide_open using [$fs,*]) ?_)
  | `(tactic| wide_open with (a $p) using [$fs,*]) => `(tactic| (refine t_app (p := $p) (by rfl) (by wide_open using [$fs,*]) (by (first | omega | assumption)) (by nest_room) (by first | rfl | (simp only [List.set_cons_zero, List.set_cons_succ] <;> rfl)) ?_; try simp only [List.set_cons_zero, List.set_cons_succ]))
set_option hygiene false in
local macro_rules | `(tactic| one_place) => `(tactic| (refine t_if (by tb_start) (fun hb => ?_) (fun hb => ?_) <;> (try simp only [decide_eq_true_eq, decide_eq_false_iff_not, Bool.not_eq_true', Bool.not_eq_false', Bool.and_eq_true, Bool.or_eq_true, Bool.and_eq_false_iff, Bool.or_eq_false_iff] at hb) <;> (try simp only [List.nil_append, List.cons_append, List.append_nil])))
local macro_rules | `(tactic| one_sign) => `(tactic| simp only [start_eq, List.map_cons, List.map_nil, List.length_cons, List.length_nil, Nat.reduceAdd, Nat.reduceSub, List.replicate_succ, List.replicate_zero, List.cons_append, List.nil_append])
section
/-! ### numbers -/
abbrev Num := Z4 × Nat
def en (x : Num) : PyData := nv x.1 x.2
theorem nl_en (x : Num) : noList (en x) = true := rfl
theorem ix_en0 (x : Num) : idxV (en x) (.int 0) = .ok (.int x.1.a) := rfl
theorem ix_en1 (x : Num) : idxV (en x) (.int 1) = .ok (.int x.1.b) := rfl
theorem ix_en2 (x : Num) : idxV (en x) (.int 2) = .ok (.int x.1.c) := rfl
theorem ix_en3 (x : Num) : idxV (en x) (.int 3) = .ok (.int x.1.d) := rfl
theorem ix_en4 (x : Num) : idxV (en x) (.int 4) = .ok (.int x.2) := rfl
instance : DecidableEq Z4 := fun p q => decidable_of_iff (p.a = q.a ∧ p.b = q.b ∧ p.c = q.c ∧ p.d = q.d) (by
  obtain ⟨a, b, c, d⟩ := p
  obtain ⟨a', b', c', d'⟩ := q
  rw [Z4.mk.injEq])
theorem eqv_en (x y : Num) : PyData.eqvAll [.int x.1.a, .int x.1.b, .int x.1.c, .int x.1.d, .int x.2] [.int y.1.a, .int y.1.b, .int y.1.c, .int y.1.d, .int y.2] = decide (x = y) := by
  simp only [ea_nil, ea_cons, ev_int, Bool.and_true]
  obtain ⟨⟨a, b, c, d⟩, k⟩ := x
  obtain ⟨⟨a', b', c', d'⟩, k'⟩ := y
  rw [Bool.eq_iff_iff]
  simp only [Bool.and_eq_true, decide_eq_true_eq, Prod.mk.injEq, Z4.mk.injEq, Int.natCast_inj]
  constructor
  · rintro ⟨h1, h2, h3, h4, h5⟩; exact ⟨⟨h1, h2, h3, h4⟩, h5⟩
  · rintro ⟨⟨h1, h2, h3, h4⟩, h5⟩; exact ⟨h1, h2, h3, h4, h5⟩
theorem cm_eq_en (x y : Num) : cmV .eq (en x) (en y) = .ok (.bool (decide (x = y))) := by
  unfold en nv
  rw [cm_eq_tt, sh_t5, sh_t5, Bool.and_true, guard_true, eqv_en]
theorem cm_ne_en (x y : Num) : cmV .ne (en x) (en y) = .ok (.bool (!decide (x = y))) := by
  unfold en nv
  rw [cm_ne_tt, sh_t5, sh_t5, Bool.and_true, guard_true, eqv_en]
end
end L2.Pu.Law
namespace L2.Pu.Law
open PySem PySem.Spec PyProof.Rows
local macro_rules | `(tactic| nest_room) => `(tactic| first | rfl | assumption | (simp only [nl_tup, nls_nil, nls_cons, nl_int, nl_bool, nl_str, nl_none, nl_en, Bool.and_true, Bool.and_self, *] <;> rfl))
local macro_rules | `(tactic| tb_start) => `(tactic| first | (simp (maxSteps := 400000) (disch := first | omega | assumption) only [List.getElem?_cons_zero, List.getElem?_cons_succ, Int.natCast_inj, Int.ofNat_lt, Int.ofNat_le, band_n, bor_n, bxor_n, cz_0, cz_1, cz_2, cz_3, cz_4, cz_5, cz_6, cz_7, cz_8, String.reduceEq, List.length_set, List.length_range, rg_len, at_rg, ixN_n, Int.toNat_natCast, Int.reduceToNat, cm_eq_en, cm_ne_en, ix_en0, ix_en1, ix_en2, ix_en3, ix_en4, nl_en, g_mulS, bind_ite, bind_guard, bind_ok, varR_s, ownR_s, e_var, e_cst, e_bin, e_neg, e_nt, e_conj, e_disj, e_ife, e_cmp, e_chain, e_tup, e_lst, e_rep, e_idx, e_sl, e_call, e_bi, e_lenN, e_sset, e_lrev, e_isi, e_isx, e_comp, es_nil, es_cons, eo_none, eo_some, ec_none, ec_some, isi_int_int, isi_int_bool, isi_tup_tup, isi_tup_int, isi_bool_bool, isi_bool_int, isi_lst_lst, isi_str_str, isi_tup_lst, isi_lst_tup, boolV_b, intV_i, notV_b, negV_i, op_ii, op_i_add, op_i_sub, op_i_mul, op_i_fdiv, op_i_mod, op_i_pow, op_i_shl, op_i_shr, op_i_band, op_i_bor, op_i_bxor, op_tt, op_ll, cm_eq_bb, cm_ne_bb, cm_eq_ii, cm_ne_ii, cm_eq_ss, cm_ne_ss, cm_lt, cm_le, cm_gt, cm_ge, cm_eq_tt, cm_ne_tt, cm_eq_ll, cm_ne_ll, cm_isn, cm_notn, bi_len_l, bi_len_t, bi_list_l, bi_list_t, bi_tup_l, bi_tup_t, bi_max, bi_min, bi_int_i, bi_int_b, ix_t, ix_l, sl_t, sl_l, at_0, at_1, at_2, at_3, at_4, at_5, optR_some, src_t, src_l, src_r1, src_r2, src_r3, set_nm, set_tp, setA_nil, setA_cons, share_nil, nl_int, nl_bool, nl_str, nl_none, nl_tup, nls_nil, nls_cons, nl_list, il_list, il_tup, il_int, il_bool, il_str, il_none, ite_tt, ite_ff, calm_ok, guard_true, fresh, lk, lkI, lks, List.map_cons, List.map_nil, List.length_cons, List.length_nil, List.length_map, List.cons_append, List.nil_append, List.append_nil, List.set_cons_zero, List.set_cons_succ, List.replicate_succ, List.replicate_zero, Nat.reduceSub, Nat.reduceAdd, Nat.zero_add, Bool.and_true, Bool.true_and, Bool.not_true, Bool.not_false, Bool.or_true, Bool.true_or, Bool.false_or, Bool.or_false, Bool.and_false, Bool.false_and, if_true, if_false, Bool.false_eq_true, decide_eq_true_eq, Bool.not_eq_true', decide_eq_false_iff_not, reduceIte, decide_true, decide_false, g_pow2, cg_nil, cg_cons, rg_0, rg_1, rg_2, rg_3, rg_4, rg_5, rg_6, rg_7, rg_8, wipe_nil, wipe_cons, no_u, no_0, no_1, all_nil, all_cons, ea_nil, ea_cons, ev_int, cut_4, cut_01, g_pow10, g_lg, g_nab, g_le, g_lt, g_10, sh_t1, sh_l1, sh_t2, sh_l2, sh_t3, sh_l3, sh_t4, sh_l4, sh_t5, sh_l5, sh_t6, sh_l6, eq_self, xn4_0, xn4_1, xn4_2, xn4_3, g_mod, g_shr, g_fdiv, g_shl, g_mul, g_fits, g_ends, g_rng3, g_and, nn0, nn1, nn2, nn3, nn4, nn5, nn6, share_cons, mod_zero, mod_succ, share1_s, share1_n, bind_ok, Int.reduceNeg, Int.reduceLT, Int.reduceLE, Int.reduceEq, Int.reduceNe, not_true_eq_false, not_false_eq_true, Int.reduceAdd, Int.reduceSub, Int.reduceMul, Int.reduceMod, Int.reduceDiv, Bool.and_eq_true, Int.zero_add, Int.add_zero, Int.mul_one, Int.one_mul, Nat.reduceEqDiff, reduceCtorEq, List.contains_nil, List.elem_nil, *] <;> rfl) | rfl)
local macro_rules | `(tactic| tb_rel) => `(tactic| first
  | refine t_asg_n (by tb_start) (by nest_room) (by (simp only [List.set_cons_zero, List.set_cons_succ] <;> rfl)) ?_
  | refine t_asg_l (by tb_start) (by (simp only [lk, lkI, lks, fresh, share_nil, share_cons, mod_zero, mod_succ, share1_s, share1_n, List.nil_append, List.append_nil, List.cons_append, List.set_cons_zero, List.set_cons_succ] <;> rfl)) ?_
  | refine t_ife (by tb_start) ?_; try simp only [cond_true, cond_false, List.nil_append, List.cons_append, List.append_nil]
  | refine t_ret (by tb_start) ?_
  | refine t_retf (by tb_start) (by rfl) ?_
  | refine t_app (by rfl) (by tb_start) (by (first | omega | assumption)) (by nest_room) (by (simp only [List.set_cons_zero, List.set_cons_succ] <;> rfl)) ?_
  | refine t_asg_tp (by tb_start) (by nest_room) (by (simp only [setA_nil, setA_cons, List.set_cons_zero, List.set_cons_succ] <;> rfl)) ?_
  | refine t_brk ?_
  | refine t_cnt ?_
  | refine t_pass ?_
  | refine t_drop (by tb_start) ?_
  | refine t_sub (by tb_start) (by rfl) (by tb_start) (by tb_start) (by nest_room) (by (simp only [List.set_cons_zero, List.set_cons_succ] <;> rfl)) ?_
  | ((first | apply t_ife | apply t_ret | apply t_retf | apply t_sub | apply t_app | apply t_asg_tp | apply t_asg_n | apply t_drop); (try simp (maxSteps := 400000) (disch := first | omega | assumption) only [List.getElem?_cons_zero, List.getElem?_cons_succ, Int.natCast_inj, Int.ofNat_lt, Int.ofNat_le, band_n, bor_n, bxor_n, cz_0, cz_1, cz_2, cz_3, cz_4, cz_5, cz_6, cz_7, cz_8, String.reduceEq, List.length_set, List.length_range, rg_len, at_rg, ixN_n, Int.toNat_natCast, Int.reduceToNat, cm_eq_en, cm_ne_en, ix_en0, ix_en1, ix_en2, ix_en3, ix_en4, nl_en, g_mulS, bind_ite, bind_guard, bind_ok, varR_s, ownR_s, e_var, e_cst, e_bin, e_neg, e_nt, e_conj, e_disj, e_ife, e_cmp, e_chain, e_tup, e_lst, e_rep, e_idx, e_sl, e_call, e_bi, e_lenN, e_sset, e_lrev, e_isi, e_isx, e_comp, es_nil, es_cons, eo_none, eo_some, ec_none, ec_some, isi_int_int, isi_int_bool, isi_tup_tup, isi_tup_int, isi_bool_bool, isi_bool_int, isi_lst_lst, isi_str_str, isi_tup_lst, isi_lst_tup, boolV_b, intV_i, notV_b, negV_i, op_ii, op_i_add, op_i_sub, op_i_mul, op_i_fdiv, op_i_mod, op_i_pow, op_i_shl, op_i_shr, op_i_band, op_i_bor, op_i_bxor, op_tt, op_ll, cm_eq_bb, cm_ne_bb, cm_eq_ii, cm_ne_ii, cm_eq_ss, cm_ne_ss, cm_lt, cm_le, cm_gt, cm_ge, cm_eq_tt, cm_ne_tt, cm_eq_ll, cm_ne_ll, cm_isn, cm_notn, bi_len_l, bi_len_t, bi_list_l, bi_list_t, bi_tup_l, bi_tup_t, bi_max, bi_min, bi_int_i, bi_int_b, ix_t, ix_l, sl_t, sl_l, at_0, at_1, at_2, at_3, at_4, at_5, optR_some, src_t, src_l, src_r1, src_r2, src_r3, set_nm, set_tp, setA_nil, setA_cons, share_nil, nl_int, nl_bool, nl_str, nl_none, nl_tup, nls_nil, nls_cons, nl_list, il_list, il_tup, il_int, il_bool, il_str, il_none, ite_tt, ite_ff, calm_ok, guard_true, fresh, lk, lkI, lks, List.map_cons, List.map_nil, List.length_cons, List.length_nil, List.length_map, List.cons_append, List.nil_append, List.append_nil, List.set_cons_zero, List.set_cons_succ, List.replicate_succ, List.replicate_zero, Nat.reduceSub, Nat.reduceAdd, Nat.zero_add, Bool.and_true, Bool.true_and, Bool.not_true, Bool.not_false, Bool.or_true, Bool.true_or, Bool.false_or, Bool.or_false, Bool.and_false, Bool.false_and, if_true, if_false, Bool.false_eq_true, decide_eq_true_eq, Bool.not_eq_true', decide_eq_false_iff_not, reduceIte, decide_true, decide_false, g_pow2, cg_nil, cg_cons, rg_0, rg_1, rg_2, rg_3, rg_4, rg_5, rg_6, rg_7, rg_8, wipe_nil, wipe_cons, no_u, no_0, no_1, all_nil, all_cons, ea_nil, ea_cons, ev_int, cut_4, cut_01, g_pow10, g_lg, g_nab, g_le, g_lt, g_10, sh_t1, sh_l1, sh_t2, sh_l2, sh_t3, sh_l3, sh_t4, sh_l4, sh_t5, sh_l5, sh_t6, sh_l6, eq_self, xn4_0, xn4_1, xn4_2, xn4_3, g_mod, g_shr, g_fdiv, g_shl, g_mul, g_fits, g_ends, g_rng3, g_and, nn0, nn1, nn2, nn3, nn4, nn5, nn6, share_cons, mod_zero, mod_succ, share1_s, share1_n, bind_ok, Int.reduceNeg, Int.reduceLT, Int.reduceLE, Int.reduceEq, Int.reduceNe, not_true_eq_false, not_false_eq_true, Int.reduceAdd, Int.reduceSub, Int.reduceMul, Int.reduceMod, Int.reduceDiv, Bool.and_eq_true, Int.zero_add, Int.add_zero, Int.mul_one, Int.one_mul, Nat.reduceEqDiff, reduceCtorEq, List.contains_nil, List.elem_nil, *]))
  | refine t_nil ?_)
local macro_rules | `(tactic| wide_open using [$fs,*]) => `(tactic| first | (simp (maxSteps := 400000) (disch := first | omega | assumption) only [List.getElem?_cons_zero, List.getElem?_cons_succ, Int.natCast_inj, Int.ofNat_lt, Int.ofNat_le, band_n, bor_n, bxor_n, cz_0, cz_1, cz_2, cz_3, cz_4, cz_5, cz_6, cz_7, cz_8, String.reduceEq, List.length_set, List.length_range, rg_len, at_rg, ixN_n, Int.toNat_natCast, Int.reduceToNat, cm_eq_en, cm_ne_en, ix_en0, ix_en1, ix_en2, ix_en3, ix_en4, nl_en, g_mulS, bind_ite, bind_guard, bind_ok, varR_s, ownR_s, e_var, e_cst, e_bin, e_neg, e_nt, e_conj, e_disj, e_ife, e_cmp, e_chain, e_tup, e_lst, e_rep, e_idx, e_sl, e_call, e_bi, e_lenN, e_sset, e_lrev, e_isi, e_isx, e_comp, es_nil, es_cons, eo_none, eo_some, ec_none, ec_some, isi_int_int, isi_int_bool, isi_tup_tup, isi_tup_int, isi_bool_bool, isi_bool_int, isi_lst_lst, isi_str_str, isi_tup_lst, isi_lst_tup, boolV_b, intV_i, notV_b, negV_i, op_ii, op_i_add, op_i_sub, op_i_mul, op_i_fdiv, op_i_mod, op_i_pow, op_i_shl, op_i_shr, op_i_band, op_i_bor, op_i_bxor, op_tt, op_ll, cm_eq_bb, cm_ne_bb, cm_eq_ii, cm_ne_ii, cm_eq_ss, cm_ne_ss, cm_lt, cm_le, cm_gt, cm_ge, cm_eq_tt, cm_ne_tt, cm_eq_ll, cm_ne_ll, cm_isn, cm_notn, bi_len_l, bi_len_t, bi_list_l, bi_list_t, bi_tup_l, bi_tup_t, bi_max, bi_min, bi_int_i, bi_int_b, ix_t, ix_l, sl_t, sl_l, at_0, at_1, at_2, at_3, at_4, at_5, optR_some, src_t, src_l, src_r1, src_r2, src_r3, set_nm, set_tp, setA_nil, setA_cons, share_nil, nl_int, nl_bool, nl_str, nl_none, nl_tup, nls_nil, nls_cons, nl_list, il_list, il_tup, il_int, il_bool, il_str, il_none, ite_tt, ite_ff, calm_ok, guard_true, fresh, lk, lkI, lks, List.map_cons, List.map_nil, List.length_cons, List.length_nil, List.length_map, List.cons_append, List.nil_append, List.append_nil, List.set_cons_zero, List.set_cons_succ, List.replicate_succ, List.replicate_zero, Nat.reduceSub, Nat.reduceAdd, Nat.zero_add, Bool.and_true, Bool.true_and, Bool.not_true, Bool.not_false, Bool.or_true, Bool.true_or, Bool.false_or, Bool.or_false, Bool.and_false, Bool.false_and, if_true, if_false, Bool.false_eq_true, decide_eq_true_eq, Bool.not_eq_true', decide_eq_false_iff_not, reduceIte, decide_true, decide_false, g_pow2, cg_nil, cg_cons, rg_0, rg_1, rg_2, rg_3, rg_4, rg_5, rg_6, rg_7, rg_8, wipe_nil, wipe_cons, no_u, no_0, no_1, all_nil, all_cons, ea_nil, ea_cons, ev_int, cut_4, cut_01, g_pow10, g_lg, g_nab, g_le, g_lt, g_10, sh_t1, sh_l1, sh_t2, sh_l2, sh_t3, sh_l3, sh_t4, sh_l4, sh_t5, sh_l5, sh_t6, sh_l6, eq_self, xn4_0, xn4_1, xn4_2, xn4_3, g_mod, g_shr, g_fdiv, g_shl, g_mul, g_fits, g_ends, g_rng3, g_and, nn0, nn1, nn2, nn3, nn4, nn5, nn6, share_cons, mod_zero, mod_succ, share1_s, share1_n, bind_ok, Int.reduceNeg, Int.reduceLT, Int.reduceLE, Int.reduceEq, Int.reduceNe, not_true_eq_false, not_false_eq_true, Int.reduceAdd, Int.reduceSub, Int.reduceMul, Int.reduceMod, Int.reduceDiv, Bool.and_eq_true, Int.zero_add, Int.add_zero, Int.mul_one, Int.one_mul, Nat.reduceEqDiff, reduceCtorEq, List.contains_nil, List.elem_nil, $[$fs:term],*] <;> rfl) | rfl)
local macro_rules
  | `(tactic| wide_open with (n $p) using [$fs,*]) => `(tactic| (refine t_asg_n (p := $p) (by wide_open using [$fs,*]) (by nest_room) (by first | rfl | (simp only [List.set_cons_zero, List.set_cons_succ] <;> rfl)) ?_; try simp only [List.set_cons_zero, List.set_cons_succ]))
  | `(tactic| wide_open with (l $p) using [$fs,*]) => `(tactic| (refine t_asg_l (ps := $p) (by wide_open using [$fs,*]) (by (simp only [lk, lkI, lks, fresh, share_nil, share_cons, mod_zero, mod_succ, share1_s, share1_n, List.nil_append, List.append_nil, List.cons_append, List.set_cons_zero, List.set_cons_succ] <;> rfl)) ?_; try simp only [List.set_cons_zero, List.set_cons_succ]))
  | `(tactic| wide_open with (c $p) using [$fs,*]) => `(tactic| (refine t_ife (t := $p) (by wide_open using [$fs,*]) ?_; try simp only [cond_true, cond_false, List.nil_append, List.cons_append, List.append_nil]))
  | `(tactic| wide_open with (u $p) using [$fs,*]) => `(tactic| (refine t_asg_tp (ps := $p) (by wide_open using [$fs,*]) (by nest_room) (by first | rfl | (simp only [setA_nil, setA_cons, List.set_cons_zero, List.set_cons_succ] <;> rfl)) ?_; try simp only [List.set_cons_zero, List.set_cons_succ]))
  | `(tactic| wide_open with (r $p) using [$fs,*]) => `(tactic| refine t_ret (p := $p) (by wide_open using [$fs,*]) ?_)
  | `(tactic| wide_open with (a $p) using [$fs,*]) => `(tactic| (refine t_app (p := $p) (by rfl) (by wide_open using [$fs,*]) (by (first | omega | assumption)) (by nest_room) (by first | rfl | (simp only [List.set_cons_zero, List.set_cons_succ] <;> rfl)) ?_; try simp only [List.set_cons_zero, List.set_cons_succ]))
set_option hygiene false in
local macro_rules | `(tactic| one_place) => `(tactic| (refine t_if (by tb_start) (fun hb => ?_) (fun hb => ?_) <;> (try simp only [decide_eq_true_eq, decide_eq_false_iff_not, Bool.not_eq_true', Bool.not_eq_false', Bool.and_eq_true, Bool.or_eq_true, Bool.and_eq_false_iff, Bool.or_eq_false_iff] at hb) <;> (try simp only [List.nil_append, List.cons_append, List.append_nil])))
local macro_rules | `(tactic| one_sign) => `(tactic| simp only [start_eq, List.map_cons, List.map_nil, List.length_cons, List.length_nil, Nat.reduceAdd, Nat.reduceSub, List.replicate_succ, List.replicate_zero, List.cons_append, List.nil_append])
section
/-! ### states -/
def est (N : Nat) (f : Nat → Num) : PyData := .tuple ((List.range N).map fun p => en (f p))
theorem nl_est (N : Nat) (f : Nat → Num) : noList (est N f) = true := nls_map (fun p => rfl) _
def Kb (N B : Nat) (f : Nat → Num) : Prop := ∀ p, p < N → (f p).2 ≤ B
inductive Row where
  | swing (j : Nat)
  | turn (j e : Nat)
  | flip (j : Nat)
  | tie (i j : Nat)
  | sign (i j : Nat)
  | cross (i j : Nat)
  deriving DecidableEq
def erow : Row → PyData
  | .swing j => .tuple [.str "swing", .int j]
  | .turn j e => .tuple [.str "turn", .int j, .int e]
  | .flip j => .tuple [.str "flip", .int j]
  | .tie i j => .tuple [.str "tie", .int i, .int j]
  | .sign i j => .tuple [.str "sign", .int i, .int j]
  | .cross i j => .tuple [.str "cross", .int i, .int j]
theorem nl_erow (r : Row) : noList (erow r) = true := by cases r <;> rfl
def Row.ok (n : Nat) : Row → Prop
  | .swing j => j < n
  | .turn j e => j < n ∧ 1 ≤ e ∧ e ≤ 7
  | .flip j => j < n
  | .tie i j => i < n ∧ j < n ∧ i ≠ j
  | .sign i j => i < n ∧ j < n ∧ i ≠ j
  | .cross i j => i < n ∧ j < n ∧ i ≠ j
theorem Kb.mono {N B C : Nat} {f : Nat → Num} (h : Kb N B f) (hb : B ≤ C) : Kb N C f := fun p hp => Nat.le_trans (h p hp) hb
theorem get_lt {α : Type} {l : List α} {i : Nat} {a : α} (h : l[i]? = some a) : i < l.length := by
  cases hl : Nat.decLt i l.length with
  | isTrue h => exact h
  | isFalse g => rw [List.getElem?_eq_none (by omega)] at h; cases h
end
end L2.Pu.Law
namespace L2.Pu.Law
open PySem PySem.Spec PyProof.Rows
local macro_rules | `(tactic| nest_room) => `(tactic| first | rfl | assumption | (simp only [nl_tup, nls_nil, nls_cons, nl_int, nl_bool, nl_str, nl_none, nl_en, nl_est, nl_erow, Bool.and_true, Bool.and_self, *] <;> rfl))
local macro_rules | `(tactic| tb_start) => `(tactic| first | (simp (maxSteps := 400000) (disch := first | omega | assumption) only [List.getElem?_cons_zero, List.getElem?_cons_succ, Int.natCast_inj, Int.ofNat_lt, Int.ofNat_le, band_n, bor_n, bxor_n, cz_0, cz_1, cz_2, cz_3, cz_4, cz_5, cz_6, cz_7, cz_8, String.reduceEq, List.length_set, List.length_range, rg_len, at_rg, ixN_n, Int.toNat_natCast, Int.reduceToNat, cm_eq_en, cm_ne_en, ix_en0, ix_en1, ix_en2, ix_en3, ix_en4, nl_en, nl_est, nl_erow, g_mulS, bind_ite, bind_guard, bind_ok, varR_s, ownR_s, e_var, e_cst, e_bin, e_neg, e_nt, e_conj, e_disj, e_ife, e_cmp, e_chain, e_tup, e_lst, e_rep, e_idx, e_sl, e_call, e_bi, e_lenN, e_sset, e_lrev, e_isi, e_isx, e_comp, es_nil, es_cons, eo_none, eo_some, ec_none, ec_some, isi_int_int, isi_int_bool, isi_tup_tup, isi_tup_int, isi_bool_bool, isi_bool_int, isi_lst_lst, isi_str_str, isi_tup_lst, isi_lst_tup, boolV_b, intV_i, notV_b, negV_i, op_ii, op_i_add, op_i_sub, op_i_mul, op_i_fdiv, op_i_mod, op_i_pow, op_i_shl, op_i_shr, op_i_band, op_i_bor, op_i_bxor, op_tt, op_ll, cm_eq_bb, cm_ne_bb, cm_eq_ii, cm_ne_ii, cm_eq_ss, cm_ne_ss, cm_lt, cm_le, cm_gt, cm_ge, cm_eq_tt, cm_ne_tt, cm_eq_ll, cm_ne_ll, cm_isn, cm_notn, bi_len_l, bi_len_t, bi_list_l, bi_list_t, bi_tup_l, bi_tup_t, bi_max, bi_min, bi_int_i, bi_int_b, ix_t, ix_l, sl_t, sl_l, at_0, at_1, at_2, at_3, at_4, at_5, optR_some, src_t, src_l, src_r1, src_r2, src_r3, set_nm, set_tp, setA_nil, setA_cons, share_nil, nl_int, nl_bool, nl_str, nl_none, nl_tup, nls_nil, nls_cons, nl_list, il_list, il_tup, il_int, il_bool, il_str, il_none, ite_tt, ite_ff, calm_ok, guard_true, fresh, lk, lkI, lks, List.map_cons, List.map_nil, List.length_cons, List.length_nil, List.length_map, List.cons_append, List.nil_append, List.append_nil, List.set_cons_zero, List.set_cons_succ, List.replicate_succ, List.replicate_zero, Nat.reduceSub, Nat.reduceAdd, Nat.zero_add, Bool.and_true, Bool.true_and, Bool.not_true, Bool.not_false, Bool.or_true, Bool.true_or, Bool.false_or, Bool.or_false, Bool.and_false, Bool.false_and, if_true, if_false, Bool.false_eq_true, decide_eq_true_eq, Bool.not_eq_true', decide_eq_false_iff_not, reduceIte, decide_true, decide_false, g_pow2, cg_nil, cg_cons, rg_0, rg_1, rg_2, rg_3, rg_4, rg_5, rg_6, rg_7, rg_8, wipe_nil, wipe_cons, no_u, no_0, no_1, all_nil, all_cons, ea_nil, ea_cons, ev_int, cut_4, cut_01, g_pow10, g_lg, g_nab, g_le, g_lt, g_10, sh_t1, sh_l1, sh_t2, sh_l2, sh_t3, sh_l3, sh_t4, sh_l4, sh_t5, sh_l5, sh_t6, sh_l6, eq_self, xn4_0, xn4_1, xn4_2, xn4_3, g_mod, g_shr, g_fdiv, g_shl, g_mul, g_fits, g_ends, g_rng3, g_and, nn0, nn1, nn2, nn3, nn4, nn5, nn6, share_cons, mod_zero, mod_succ, share1_s, share1_n, bind_ok, Int.reduceNeg, Int.reduceLT, Int.reduceLE, Int.reduceEq, Int.reduceNe, not_true_eq_false, not_false_eq_true, Int.reduceAdd, Int.reduceSub, Int.reduceMul, Int.reduceMod, Int.reduceDiv, Bool.and_eq_true, Int.zero_add, Int.add_zero, Int.mul_one, Int.one_mul, Nat.reduceEqDiff, reduceCtorEq, List.contains_nil, List.elem_nil, *] <;> rfl) | rfl)
local macro_rules | `(tactic| tb_rel) => `(tactic| first
  | refine t_asg_n (by tb_start) (by nest_room) (by (simp only [List.set_cons_zero, List.set_cons_succ] <;> rfl)) ?_
  | refine t_asg_l (by tb_start) (by (simp only [lk, lkI, lks, fresh, share_nil, share_cons, mod_zero, mod_succ, share1_s, share1_n, List.nil_append, List.append_nil, List.cons_append, List.set_cons_zero, List.set_cons_succ] <;> rfl)) ?_
  | refine t_ife (by tb_start) ?_; try simp only [cond_true, cond_false, List.nil_append, List.cons_append, List.append_nil]
  | refine t_ret (by tb_start) ?_
  | refine t_retf (by tb_start) (by rfl) ?_
  | refine t_app (by rfl) (by tb_start) (by (first | omega | assumption)) (by nest_room) (by (simp only [List.set_cons_zero, List.set_cons_succ] <;> rfl)) ?_
  | refine t_asg_tp (by tb_start) (by nest_room) (by (simp only [setA_nil, setA_cons, List.set_cons_zero, List.set_cons_succ] <;> rfl)) ?_
  | refine t_brk ?_
  | refine t_cnt ?_
  | refine t_pass ?_
  | refine t_drop (by tb_start) ?_
  | refine t_sub (by tb_start) (by rfl) (by tb_start) (by tb_start) (by nest_room) (by (simp only [List.set_cons_zero, List.set_cons_succ] <;> rfl)) ?_
  | ((first | apply t_ife | apply t_ret | apply t_retf | apply t_sub | apply t_app | apply t_asg_tp | apply t_asg_n | apply t_drop); (try simp (maxSteps := 400000) (disch := first | omega | assumption) only [List.getElem?_cons_zero, List.getElem?_cons_succ, Int.natCast_inj, Int.ofNat_lt, Int.ofNat_le, band_n, bor_n, bxor_n, cz_0, cz_1, cz_2, cz_3, cz_4, cz_5, cz_6, cz_7, cz_8, String.reduceEq, List.length_set, List.length_range, rg_len, at_rg, ixN_n, Int.toNat_natCast, Int.reduceToNat, cm_eq_en, cm_ne_en, ix_en0, ix_en1, ix_en2, ix_en3, ix_en4, nl_en, nl_est, nl_erow, g_mulS, bind_ite, bind_guard, bind_ok, varR_s, ownR_s, e_var, e_cst, e_bin, e_neg, e_nt, e_conj, e_disj, e_ife, e_cmp, e_chain, e_tup, e_lst, e_rep, e_idx, e_sl, e_call, e_bi, e_lenN, e_sset, e_lrev, e_isi, e_isx, e_comp, es_nil, es_cons, eo_none, eo_some, ec_none, ec_some, isi_int_int, isi_int_bool, isi_tup_tup, isi_tup_int, isi_bool_bool, isi_bool_int, isi_lst_lst, isi_str_str, isi_tup_lst, isi_lst_tup, boolV_b, intV_i, notV_b, negV_i, op_ii, op_i_add, op_i_sub, op_i_mul, op_i_fdiv, op_i_mod, op_i_pow, op_i_shl, op_i_shr, op_i_band, op_i_bor, op_i_bxor, op_tt, op_ll, cm_eq_bb, cm_ne_bb, cm_eq_ii, cm_ne_ii, cm_eq_ss, cm_ne_ss, cm_lt, cm_le, cm_gt, cm_ge, cm_eq_tt, cm_ne_tt, cm_eq_ll, cm_ne_ll, cm_isn, cm_notn, bi_len_l, bi_len_t, bi_list_l, bi_list_t, bi_tup_l, bi_tup_t, bi_max, bi_min, bi_int_i, bi_int_b, ix_t, ix_l, sl_t, sl_l, at_0, at_1, at_2, at_3, at_4, at_5, optR_some, src_t, src_l, src_r1, src_r2, src_r3, set_nm, set_tp, setA_nil, setA_cons, share_nil, nl_int, nl_bool, nl_str, nl_none, nl_tup, nls_nil, nls_cons, nl_list, il_list, il_tup, il_int, il_bool, il_str, il_none, ite_tt, ite_ff, calm_ok, guard_true, fresh, lk, lkI, lks, List.map_cons, List.map_nil, List.length_cons, List.length_nil, List.length_map, List.cons_append, List.nil_append, List.append_nil, List.set_cons_zero, List.set_cons_succ, List.replicate_succ, List.replicate_zero, Nat.reduceSub, Nat.reduceAdd, Nat.zero_add, Bool.and_true, Bool.true_and, Bool.not_true, Bool.not_false, Bool.or_true, Bool.true_or, Bool.false_or, Bool.or_false, Bool.and_false, Bool.false_and, if_true, if_false, Bool.false_eq_true, decide_eq_true_eq, Bool.not_eq_true', decide_eq_false_iff_not, reduceIte, decide_true, decide_false, g_pow2, cg_nil, cg_cons, rg_0, rg_1, rg_2, rg_3, rg_4, rg_5, rg_6, rg_7, rg_8, wipe_nil, wipe_cons, no_u, no_0, no_1, all_nil, all_cons, ea_nil, ea_cons, ev_int, cut_4, cut_01, g_pow10, g_lg, g_nab, g_le, g_lt, g_10, sh_t1, sh_l1, sh_t2, sh_l2, sh_t3, sh_l3, sh_t4, sh_l4, sh_t5, sh_l5, sh_t6, sh_l6, eq_self, xn4_0, xn4_1, xn4_2, xn4_3, g_mod, g_shr, g_fdiv, g_shl, g_mul, g_fits, g_ends, g_rng3, g_and, nn0, nn1, nn2, nn3, nn4, nn5, nn6, share_cons, mod_zero, mod_succ, share1_s, share1_n, bind_ok, Int.reduceNeg, Int.reduceLT, Int.reduceLE, Int.reduceEq, Int.reduceNe, not_true_eq_false, not_false_eq_true, Int.reduceAdd, Int.reduceSub, Int.reduceMul, Int.reduceMod, Int.reduceDiv, Bool.and_eq_true, Int.zero_add, Int.add_zero, Int.mul_one, Int.one_mul, Nat.reduceEqDiff, reduceCtorEq, List.contains_nil, List.elem_nil, *]))
  | refine t_nil ?_)
local macro_rules | `(tactic| wide_open using [$fs,*]) => `(tactic| first | (simp (maxSteps := 400000) (disch := first | omega | assumption) only [List.getElem?_cons_zero, List.getElem?_cons_succ, Int.natCast_inj, Int.ofNat_lt, Int.ofNat_le, band_n, bor_n, bxor_n, cz_0, cz_1, cz_2, cz_3, cz_4, cz_5, cz_6, cz_7, cz_8, String.reduceEq, List.length_set, List.length_range, rg_len, at_rg, ixN_n, Int.toNat_natCast, Int.reduceToNat, cm_eq_en, cm_ne_en, ix_en0, ix_en1, ix_en2, ix_en3, ix_en4, nl_en, nl_est, nl_erow, g_mulS, bind_ite, bind_guard, bind_ok, varR_s, ownR_s, e_var, e_cst, e_bin, e_neg, e_nt, e_conj, e_disj, e_ife, e_cmp, e_chain, e_tup, e_lst, e_rep, e_idx, e_sl, e_call, e_bi, e_lenN, e_sset, e_lrev, e_isi, e_isx, e_comp, es_nil, es_cons, eo_none, eo_some, ec_none, ec_some, isi_int_int, isi_int_bool, isi_tup_tup, isi_tup_int, isi_bool_bool, isi_bool_int, isi_lst_lst, isi_str_str, isi_tup_lst, isi_lst_tup, boolV_b, intV_i, notV_b, negV_i, op_ii, op_i_add, op_i_sub, op_i_mul, op_i_fdiv, op_i_mod, op_i_pow, op_i_shl, op_i_shr, op_i_band, op_i_bor, op_i_bxor, op_tt, op_ll, cm_eq_bb, cm_ne_bb, cm_eq_ii, cm_ne_ii, cm_eq_ss, cm_ne_ss, cm_lt, cm_le, cm_gt, cm_ge, cm_eq_tt, cm_ne_tt, cm_eq_ll, cm_ne_ll, cm_isn, cm_notn, bi_len_l, bi_len_t, bi_list_l, bi_list_t, bi_tup_l, bi_tup_t, bi_max, bi_min, bi_int_i, bi_int_b, ix_t, ix_l, sl_t, sl_l, at_0, at_1, at_2, at_3, at_4, at_5, optR_some, src_t, src_l, src_r1, src_r2, src_r3, set_nm, set_tp, setA_nil, setA_cons, share_nil, nl_int, nl_bool, nl_str, nl_none, nl_tup, nls_nil, nls_cons, nl_list, il_list, il_tup, il_int, il_bool, il_str, il_none, ite_tt, ite_ff, calm_ok, guard_true, fresh, lk, lkI, lks, List.map_cons, List.map_nil, List.length_cons, List.length_nil, List.length_map, List.cons_append, List.nil_append, List.append_nil, List.set_cons_zero, List.set_cons_succ, List.replicate_succ, List.replicate_zero, Nat.reduceSub, Nat.reduceAdd, Nat.zero_add, Bool.and_true, Bool.true_and, Bool.not_true, Bool.not_false, Bool.or_true, Bool.true_or, Bool.false_or, Bool.or_false, Bool.and_false, Bool.false_and, if_true, if_false, Bool.false_eq_true, decide_eq_true_eq, Bool.not_eq_true', decide_eq_false_iff_not, reduceIte, decide_true, decide_false, g_pow2, cg_nil, cg_cons, rg_0, rg_1, rg_2, rg_3, rg_4, rg_5, rg_6, rg_7, rg_8, wipe_nil, wipe_cons, no_u, no_0, no_1, all_nil, all_cons, ea_nil, ea_cons, ev_int, cut_4, cut_01, g_pow10, g_lg, g_nab, g_le, g_lt, g_10, sh_t1, sh_l1, sh_t2, sh_l2, sh_t3, sh_l3, sh_t4, sh_l4, sh_t5, sh_l5, sh_t6, sh_l6, eq_self, xn4_0, xn4_1, xn4_2, xn4_3, g_mod, g_shr, g_fdiv, g_shl, g_mul, g_fits, g_ends, g_rng3, g_and, nn0, nn1, nn2, nn3, nn4, nn5, nn6, share_cons, mod_zero, mod_succ, share1_s, share1_n, bind_ok, Int.reduceNeg, Int.reduceLT, Int.reduceLE, Int.reduceEq, Int.reduceNe, not_true_eq_false, not_false_eq_true, Int.reduceAdd, Int.reduceSub, Int.reduceMul, Int.reduceMod, Int.reduceDiv, Bool.and_eq_true, Int.zero_add, Int.add_zero, Int.mul_one, Int.one_mul, Nat.reduceEqDiff, reduceCtorEq, List.contains_nil, List.elem_nil, $[$fs:term],*] <;> rfl) | rfl)
local macro_rules
  | `(tactic| wide_open with (n $p) using [$fs,*]) => `(tactic| (refine t_asg_n (p := $p) (by wide_open using [$fs,*]) (by nest_room) (by first | rfl | (simp only [List.set_cons_zero, List.set_cons_succ] <;> rfl)) ?_; try simp only [List.set_cons_zero, List.set_cons_succ]))
  | `(tactic| wide_open with (l $p) using [$fs,*]) => `(tactic| (refine t_asg_l (ps := $p) (by wide_open using [$fs,*]) (by (simp only [lk, lkI, lks, fresh, share_nil, share_cons, mod_zero, mod_succ, share1_s, share1_n, List.nil_append, List.append_nil, List.cons_append, List.set_cons_zero, List.set_cons_succ] <;> rfl)) ?_; try simp only [List.set_cons_zero, List.set_cons_succ]))
  | `(tactic| wide_open with (c $p) using [$fs,*]) => `(tactic| (refine t_ife (t := $p) (by wide_open using [$fs,*]) ?_; try simp only [cond_true, cond_false, List.nil_append, List.cons_append, List.append_nil]))
  | `(tactic| wide_open with (u $p) using [$fs,*]) => `(tactic| (refine t_asg_tp (ps := $p) (by wide_open using [$fs,*]) (by nest_room) (by first | rfl | (simp only [setA_nil, setA_cons, List.set_cons_zero, List.set_cons_succ] <;> rfl)) ?_; try simp only [List.set_cons_zero, List.set_cons_succ]))
  | `(tactic| wide_open with (r $p) using [$fs,*]) => `(tactic| refine t_ret (p := $p) (by wide_open using [$fs,*]) ?_)
  | `(tactic| wide_open with (a $p) using [$fs,*]) => `(tactic| (refine t_app (p := $p) (by rfl) (by wide_open using [$fs,*]) (by (first | omega | assumption)) (by nest_room) (by first | rfl | (simp only [List.set_cons_zero, List.set_cons_succ] <;> rfl)) ?_; try simp only [List.set_cons_zero, List.set_cons_succ]))
set_option hygiene false in
local macro_rules | `(tactic| one_place) => `(tactic| (refine t_if (by tb_start) (fun hb => ?_) (fun hb => ?_) <;> (try simp only [decide_eq_true_eq, decide_eq_false_iff_not, Bool.not_eq_true', Bool.not_eq_false', Bool.and_eq_true, Bool.or_eq_true, Bool.and_eq_false_iff, Bool.or_eq_false_iff] at hb) <;> (try simp only [List.nil_append, List.cons_append, List.append_nil])))
local macro_rules | `(tactic| one_sign) => `(tactic| simp only [start_eq, List.map_cons, List.map_nil, List.length_cons, List.length_nil, Nat.reduceAdd, Nat.reduceSub, List.replicate_succ, List.replicate_zero, List.cons_append, List.nil_append])
section
/-! ### words -/
abbrev Wo := Nat × Nat × Nat
def ew (v : Wo) : PyData := wd v.1 v.2.1 v.2.2
theorem nl_ew (v : Wo) : noList (ew v) = true := rfl
def Wo.ok (n : Nat) (v : Wo) : Prop := v.1 < 2 ^ n ∧ v.2.1 < 2 ^ n ∧ v.2.2 < 4
def elist (ns : List Int) : PyData := .list (ns.map .int)
theorem ix_ew0 (v : Wo) : idxV (ew v) (.int 0) = .ok (.int v.1) := rfl
theorem ix_ew1 (v : Wo) : idxV (ew v) (.int 1) = .ok (.int v.2.1) := rfl
theorem ix_ew2 (v : Wo) : idxV (ew v) (.int 2) = .ok (.int v.2.2) := rfl
theorem eqv_ew (x y : Wo) : PyData.eqvAll [.int x.1, .int x.2.1, .int x.2.2] [.int y.1, .int y.2.1, .int y.2.2] = decide (x = y) := by
  simp only [ea_nil, ea_cons, ev_int, Bool.and_true]
  obtain ⟨a, b, k⟩ := x
  obtain ⟨a', b', k'⟩ := y
  rw [Bool.eq_iff_iff]
  simp only [Bool.and_eq_true, decide_eq_true_eq, Prod.mk.injEq, Int.natCast_inj]
theorem cm_eq_ew (x y : Wo) : cmV .eq (ew x) (ew y) = .ok (.bool (decide (x = y))) := by
  unfold ew wd
  rw [cm_eq_tt, sh_t3, sh_t3, Bool.and_true, guard_true, eqv_ew]
theorem cm_ne_ew (x y : Wo) : cmV .ne (ew x) (ew y) = .ok (.bool (!decide (x = y))) := by
  unfold ew wd
  rw [cm_ne_tt, sh_t3, sh_t3, Bool.and_true, guard_true, eqv_ew]
end
end L2.Pu.Law
namespace L2.Pu.Law
open PySem PySem.Spec PyProof.Rows
local macro_rules | `(tactic| nest_room) => `(tactic| first | rfl | assumption | (simp only [nl_tup, nls_nil, nls_cons, nl_int, nl_bool, nl_str, nl_none, nl_en, nl_est, nl_erow, nl_ew, Bool.and_true, Bool.and_self, *] <;> rfl))
local macro_rules | `(tactic| tb_start) => `(tactic| first | (simp (maxSteps := 400000) (disch := first | omega | assumption) only [List.getElem?_cons_zero, List.getElem?_cons_succ, Int.natCast_inj, Int.ofNat_lt, Int.ofNat_le, band_n, bor_n, bxor_n, cz_0, cz_1, cz_2, cz_3, cz_4, cz_5, cz_6, cz_7, cz_8, String.reduceEq, List.length_set, List.length_range, rg_len, at_rg, ixN_n, Int.toNat_natCast, Int.reduceToNat, cm_eq_en, cm_ne_en, ix_en0, ix_en1, ix_en2, ix_en3, ix_en4, ix_ew0, ix_ew1, ix_ew2, cm_eq_ew, cm_ne_ew, nl_ew, nl_en, nl_est, nl_erow, g_mulS, bind_ite, bind_guard, bind_ok, varR_s, ownR_s, e_var, e_cst, e_bin, e_neg, e_nt, e_conj, e_disj, e_ife, e_cmp, e_chain, e_tup, e_lst, e_rep, e_idx, e_sl, e_call, e_bi, e_lenN, e_sset, e_lrev, e_isi, e_isx, e_comp, es_nil, es_cons, eo_none, eo_some, ec_none, ec_some, isi_int_int, isi_int_bool, isi_tup_tup, isi_tup_int, isi_bool_bool, isi_bool_int, isi_lst_lst, isi_str_str, isi_tup_lst, isi_lst_tup, boolV_b, intV_i, notV_b, negV_i, op_ii, op_i_add, op_i_sub, op_i_mul, op_i_fdiv, op_i_mod, op_i_pow, op_i_shl, op_i_shr, op_i_band, op_i_bor, op_i_bxor, op_tt, op_ll, cm_eq_bb, cm_ne_bb, cm_eq_ii, cm_ne_ii, cm_eq_ss, cm_ne_ss, cm_lt, cm_le, cm_gt, cm_ge, cm_eq_tt, cm_ne_tt, cm_eq_ll, cm_ne_ll, cm_isn, cm_notn, bi_len_l, bi_len_t, bi_list_l, bi_list_t, bi_tup_l, bi_tup_t, bi_max, bi_min, bi_int_i, bi_int_b, ix_t, ix_l, sl_t, sl_l, at_0, at_1, at_2, at_3, at_4, at_5, optR_some, src_t, src_l, src_r1, src_r2, src_r3, set_nm, set_tp, setA_nil, setA_cons, share_nil, nl_int, nl_bool, nl_str, nl_none, nl_tup, nls_nil, nls_cons, nl_list, il_list, il_tup, il_int, il_bool, il_str, il_none, ite_tt, ite_ff, calm_ok, guard_true, fresh, lk, lkI, lks, List.map_cons, List.map_nil, List.length_cons, List.length_nil, List.length_map, List.cons_append, List.nil_append, List.append_nil, List.set_cons_zero, List.set_cons_succ, List.replicate_succ, List.replicate_zero, Nat.reduceSub, Nat.reduceAdd, Nat.zero_add, Bool.and_true, Bool.true_and, Bool.not_true, Bool.not_false, Bool.or_true, Bool.true_or, Bool.false_or, Bool.or_false, Bool.and_false, Bool.false_and, if_true, if_false, Bool.false_eq_true, decide_eq_true_eq, Bool.not_eq_true', decide_eq_false_iff_not, reduceIte, decide_true, decide_false, g_pow2, cg_nil, cg_cons, rg_0, rg_1, rg_2, rg_3, rg_4, rg_5, rg_6, rg_7, rg_8, wipe_nil, wipe_cons, no_u, no_0, no_1, all_nil, all_cons, ea_nil, ea_cons, ev_int, cut_4, cut_01, g_pow10, g_lg, g_nab, g_le, g_lt, g_10, sh_t1, sh_l1, sh_t2, sh_l2, sh_t3, sh_l3, sh_t4, sh_l4, sh_t5, sh_l5, sh_t6, sh_l6, eq_self, xn4_0, xn4_1, xn4_2, xn4_3, g_mod, g_shr, g_fdiv, g_shl, g_mul, g_fits, g_ends, g_rng3, g_and, nn0, nn1, nn2, nn3, nn4, nn5, nn6, share_cons, mod_zero, mod_succ, share1_s, share1_n, bind_ok, Int.reduceNeg, Int.reduceLT, Int.reduceLE, Int.reduceEq, Int.reduceNe, not_true_eq_false, not_false_eq_true, Int.reduceAdd, Int.reduceSub, Int.reduceMul, Int.reduceMod, Int.reduceDiv, Bool.and_eq_true, Int.zero_add, Int.add_zero, Int.mul_one, Int.one_mul, Nat.reduceEqDiff, reduceCtorEq, List.contains_nil, List.elem_nil, *] <;> rfl) | rfl)
local macro_rules | `(tactic| tb_rel) => `(tactic| first
  | refine t_asg_n (by tb_start) (by nest_room) (by (simp only [List.set_cons_zero, List.set_cons_succ] <;> rfl)) ?_
  | refine t_asg_l (by tb_start) (by (simp only [lk, lkI, lks, fresh, share_nil, share_cons, mod_zero, mod_succ, share1_s, share1_n, List.nil_append, List.append_nil, List.cons_append, List.set_cons_zero, List.set_cons_succ] <;> rfl)) ?_
  | refine t_ife (by tb_start) ?_; try simp only [cond_true, cond_false, List.nil_append, List.cons_append, List.append_nil]
  | refine t_ret (by tb_start) ?_
  | refine t_retf (by tb_start) (by rfl) ?_
  | refine t_app (by rfl) (by tb_start) (by (first | omega | assumption)) (by nest_room) (by (simp only [List.set_cons_zero, List.set_cons_succ] <;> rfl)) ?_
  | refine t_asg_tp (by tb_start) (by nest_room) (by (simp only [setA_nil, setA_cons, List.set_cons_zero, List.set_cons_succ] <;> rfl)) ?_
  | refine t_brk ?_
  | refine t_cnt ?_
  | refine t_pass ?_
  | refine t_drop (by tb_start) ?_
  | refine t_sub (by tb_start) (by rfl) (by tb_start) (by tb_start) (by nest_room) (by (simp only [List.set_cons_zero, List.set_cons_succ] <;> rfl)) ?_
  | ((first | apply t_ife | apply t_ret | apply t_retf | apply t_sub | apply t_app | apply t_asg_tp | apply t_asg_n | apply t_drop); (try simp (maxSteps := 400000) (disch := first | omega | assumption) only [List.getElem?_cons_zero, List.getElem?_cons_succ, Int.natCast_inj, Int.ofNat_lt, Int.ofNat_le, band_n, bor_n, bxor_n, cz_0, cz_1, cz_2, cz_3, cz_4, cz_5, cz_6, cz_7, cz_8, String.reduceEq, List.length_set, List.length_range, rg_len, at_rg, ixN_n, Int.toNat_natCast, Int.reduceToNat, cm_eq_en, cm_ne_en, ix_en0, ix_en1, ix_en2, ix_en3, ix_en4, ix_ew0, ix_ew1, ix_ew2, cm_eq_ew, cm_ne_ew, nl_ew, nl_en, nl_est, nl_erow, g_mulS, bind_ite, bind_guard, bind_ok, varR_s, ownR_s, e_var, e_cst, e_bin, e_neg, e_nt, e_conj, e_disj, e_ife, e_cmp, e_chain, e_tup, e_lst, e_rep, e_idx, e_sl, e_call, e_bi, e_lenN, e_sset, e_lrev, e_isi, e_isx, e_comp, es_nil, es_cons, eo_none, eo_some, ec_none, ec_some, isi_int_int, isi_int_bool, isi_tup_tup, isi_tup_int, isi_bool_bool, isi_bool_int, isi_lst_lst, isi_str_str, isi_tup_lst, isi_lst_tup, boolV_b, intV_i, notV_b, negV_i, op_ii, op_i_add, op_i_sub, op_i_mul, op_i_fdiv, op_i_mod, op_i_pow, op_i_shl, op_i_shr, op_i_band, op_i_bor, op_i_bxor, op_tt, op_ll, cm_eq_bb, cm_ne_bb, cm_eq_ii, cm_ne_ii, cm_eq_ss, cm_ne_ss, cm_lt, cm_le, cm_gt, cm_ge, cm_eq_tt, cm_ne_tt, cm_eq_ll, cm_ne_ll, cm_isn, cm_notn, bi_len_l, bi_len_t, bi_list_l, bi_list_t, bi_tup_l, bi_tup_t, bi_max, bi_min, bi_int_i, bi_int_b, ix_t, ix_l, sl_t, sl_l, at_0, at_1, at_2, at_3, at_4, at_5, optR_some, src_t, src_l, src_r1, src_r2, src_r3, set_nm, set_tp, setA_nil, setA_cons, share_nil, nl_int, nl_bool, nl_str, nl_none, nl_tup, nls_nil, nls_cons, nl_list, il_list, il_tup, il_int, il_bool, il_str, il_none, ite_tt, ite_ff, calm_ok, guard_true, fresh, lk, lkI, lks, List.map_cons, List.map_nil, List.length_cons, List.length_nil, List.length_map, List.cons_append, List.nil_append, List.append_nil, List.set_cons_zero, List.set_cons_succ, List.replicate_succ, List.replicate_zero, Nat.reduceSub, Nat.reduceAdd, Nat.zero_add, Bool.and_true, Bool.true_and, Bool.not_true, Bool.not_false, Bool.or_true, Bool.true_or, Bool.false_or, Bool.or_false, Bool.and_false, Bool.false_and, if_true, if_false, Bool.false_eq_true, decide_eq_true_eq, Bool.not_eq_true', decide_eq_false_iff_not, reduceIte, decide_true, decide_false, g_pow2, cg_nil, cg_cons, rg_0, rg_1, rg_2, rg_3, rg_4, rg_5, rg_6, rg_7, rg_8, wipe_nil, wipe_cons, no_u, no_0, no_1, all_nil, all_cons, ea_nil, ea_cons, ev_int, cut_4, cut_01, g_pow10, g_lg, g_nab, g_le, g_lt, g_10, sh_t1, sh_l1, sh_t2, sh_l2, sh_t3, sh_l3, sh_t4, sh_l4, sh_t5, sh_l5, sh_t6, sh_l6, eq_self, xn4_0, xn4_1, xn4_2, xn4_3, g_mod, g_shr, g_fdiv, g_shl, g_mul, g_fits, g_ends, g_rng3, g_and, nn0, nn1, nn2, nn3, nn4, nn5, nn6, share_cons, mod_zero, mod_succ, share1_s, share1_n, bind_ok, Int.reduceNeg, Int.reduceLT, Int.reduceLE, Int.reduceEq, Int.reduceNe, not_true_eq_false, not_false_eq_true, Int.reduceAdd, Int.reduceSub, Int.reduceMul, Int.reduceMod, Int.reduceDiv, Bool.and_eq_true, Int.zero_add, Int.add_zero, Int.mul_one, Int.one_mul, Nat.reduceEqDiff, reduceCtorEq, List.contains_nil, List.elem_nil, *]))
  | refine t_nil ?_)
local macro_rules | `(tactic| wide_open using [$fs,*]) => `(tactic| first | (simp (maxSteps := 400000) (disch := first | omega | assumption) only [List.getElem?_cons_zero, List.getElem?_cons_succ, Int.natCast_inj, Int.ofNat_lt, Int.ofNat_le, band_n, bor_n, bxor_n, cz_0, cz_1, cz_2, cz_3, cz_4, cz_5, cz_6, cz_7, cz_8, String.reduceEq, List.length_set, List.length_range, rg_len, at_rg, ixN_n, Int.toNat_natCast, Int.reduceToNat, cm_eq_en, cm_ne_en, ix_en0, ix_en1, ix_en2, ix_en3, ix_en4, ix_ew0, ix_ew1, ix_ew2, cm_eq_ew, cm_ne_ew, nl_ew, nl_en, nl_est, nl_erow, g_mulS, bind_ite, bind_guard, bind_ok, varR_s, ownR_s, e_var, e_cst, e_bin, e_neg, e_nt, e_conj, e_disj, e_ife, e_cmp, e_chain, e_tup, e_lst, e_rep, e_idx, e_sl, e_call, e_bi, e_lenN, e_sset, e_lrev, e_isi, e_isx, e_comp, es_nil, es_cons, eo_none, eo_some, ec_none, ec_some, isi_int_int, isi_int_bool, isi_tup_tup, isi_tup_int, isi_bool_bool, isi_bool_int, isi_lst_lst, isi_str_str, isi_tup_lst, isi_lst_tup, boolV_b, intV_i, notV_b, negV_i, op_ii, op_i_add, op_i_sub, op_i_mul, op_i_fdiv, op_i_mod, op_i_pow, op_i_shl, op_i_shr, op_i_band, op_i_bor, op_i_bxor, op_tt, op_ll, cm_eq_bb, cm_ne_bb, cm_eq_ii, cm_ne_ii, cm_eq_ss, cm_ne_ss, cm_lt, cm_le, cm_gt, cm_ge, cm_eq_tt, cm_ne_tt, cm_eq_ll, cm_ne_ll, cm_isn, cm_notn, bi_len_l, bi_len_t, bi_list_l, bi_list_t, bi_tup_l, bi_tup_t, bi_max, bi_min, bi_int_i, bi_int_b, ix_t, ix_l, sl_t, sl_l, at_0, at_1, at_2, at_3, at_4, at_5, optR_some, src_t, src_l, src_r1, src_r2, src_r3, set_nm, set_tp, setA_nil, setA_cons, share_nil, nl_int, nl_bool, nl_str, nl_none, nl_tup, nls_nil, nls_cons, nl_list, il_list, il_tup, il_int, il_bool, il_str, il_none, ite_tt, ite_ff, calm_ok, guard_true, fresh, lk, lkI, lks, List.map_cons, List.map_nil, List.length_cons, List.length_nil, List.length_map, List.cons_append, List.nil_append, List.append_nil, List.set_cons_zero, List.set_cons_succ, List.replicate_succ, List.replicate_zero, Nat.reduceSub, Nat.reduceAdd, Nat.zero_add, Bool.and_true, Bool.true_and, Bool.not_true, Bool.not_false, Bool.or_true, Bool.true_or, Bool.false_or, Bool.or_false, Bool.and_false, Bool.false_and, if_true, if_false, Bool.false_eq_true, decide_eq_true_eq, Bool.not_eq_true', decide_eq_false_iff_not, reduceIte, decide_true, decide_false, g_pow2, cg_nil, cg_cons, rg_0, rg_1, rg_2, rg_3, rg_4, rg_5, rg_6, rg_7, rg_8, wipe_nil, wipe_cons, no_u, no_0, no_1, all_nil, all_cons, ea_nil, ea_cons, ev_int, cut_4, cut_01, g_pow10, g_lg, g_nab, g_le, g_lt, g_10, sh_t1, sh_l1, sh_t2, sh_l2, sh_t3, sh_l3, sh_t4, sh_l4, sh_t5, sh_l5, sh_t6, sh_l6, eq_self, xn4_0, xn4_1, xn4_2, xn4_3, g_mod, g_shr, g_fdiv, g_shl, g_mul, g_fits, g_ends, g_rng3, g_and, nn0, nn1, nn2, nn3, nn4, nn5, nn6, share_cons, mod_zero, mod_succ, share1_s, share1_n, bind_ok, Int.reduceNeg, Int.reduceLT, Int.reduceLE, Int.reduceEq, Int.reduceNe, not_true_eq_false, not_false_eq_true, Int.reduceAdd, Int.reduceSub, Int.reduceMul, Int.reduceMod, Int.reduceDiv, Bool.and_eq_true, Int.zero_add, Int.add_zero, Int.mul_one, Int.one_mul, Nat.reduceEqDiff, reduceCtorEq, List.contains_nil, List.elem_nil, $[$fs:term],*] <;> rfl) | rfl)
local macro_rules
  | `(tactic| wide_open with (n $p) using [$fs,*]) => `(tactic| (refine t_asg_n (p := $p) (by wide_open using [$fs,*]) (by nest_room) (by first | rfl | (simp only [List.set_cons_zero, List.set_cons_succ] <;> rfl)) ?_; try simp only [List.set_cons_zero, List.set_cons_succ]))
  | `(tactic| wide_open with (l $p) using [$fs,*]) => `(tactic| (refine t_asg_l (ps := $p) (by wide_open using [$fs,*]) (by (simp only [lk, lkI, lks, fresh, share_nil, share_cons, mod_zero, mod_succ, share1_s, share1_n, List.nil_append, List.append_nil, List.cons_append, List.set_cons_zero, List.set_cons_succ] <;> rfl)) ?_; try simp only [List.set_cons_zero, List.set_cons_succ]))
  | `(tactic| wide_open with (c $p) using [$fs,*]) => `(tactic| (refine t_ife (t := $p) (by wide_open using [$fs,*]) ?_; try simp only [cond_true, cond_false, List.nil_append, List.cons_append, List.append_nil]))
  | `(tactic| wide_open with (u $p) using [$fs,*]) => `(tactic| (refine t_asg_tp (ps := $p) (by wide_open using [$fs,*]) (by nest_room) (by first | rfl | (simp only [setA_nil, setA_cons, List.set_cons_zero, List.set_cons_succ] <;> rfl)) ?_; try simp only [List.set_cons_zero, List.set_cons_succ]))
  | `(tactic| wide_open with (r $p) using [$fs,*]) => `(tactic| refine t_ret (p := $p) (by wide_open using [$fs,*]) ?_)
  | `(tactic| wide_open with (a $p) using [$fs,*]) => `(tactic| (refine t_app (p := $p) (by rfl) (by wide_open using [$fs,*]) (by (first | omega | assumption)) (by nest_room) (by first | rfl | (simp only [List.set_cons_zero, List.set_cons_succ] <;> rfl)) ?_; try simp only [List.set_cons_zero, List.set_cons_succ]))
set_option hygiene false in
local macro_rules | `(tactic| one_place) => `(tactic| (refine t_if (by tb_start) (fun hb => ?_) (fun hb => ?_) <;> (try simp only [decide_eq_true_eq, decide_eq_false_iff_not, Bool.not_eq_true', Bool.not_eq_false', Bool.and_eq_true, Bool.or_eq_true, Bool.and_eq_false_iff, Bool.or_eq_false_iff] at hb) <;> (try simp only [List.nil_append, List.cons_append, List.append_nil])))
local macro_rules | `(tactic| one_sign) => `(tactic| simp only [start_eq, List.map_cons, List.map_nil, List.length_cons, List.length_nil, Nat.reduceAdd, Nat.reduceSub, List.replicate_succ, List.replicate_zero, List.cons_append, List.nil_append])
section
/-! ### sums by hand -/
structure Sum6 where
  w : Nat
  l : Nat
  h : Int
  t : Int
  ps : List (Int × Int)
  ts : List Int
  hs : List Int
def e2 (p : Int × Int) : PyData := .tuple [.int p.1, .int p.2]
def eil (l : List Int) : PyData := .tuple (l.map .int)
def e6 (s : Sum6) : PyData := .tuple [.tuple [.int s.w, .int s.l], .int s.h, .int s.t, .tuple (s.ps.map e2), eil s.ts, eil s.hs]
theorem nl_ints (l : List Int) : noLists (l.map PyData.int) = true := by
  induction l with
  | nil => rfl
  | cons i l ih => exact ih
theorem nl_e2s (l : List (Int × Int)) : noLists (l.map e2) = true := by
  induction l with
  | nil => rfl
  | cons i l ih => exact ih
theorem nl_e6 (s : Sum6) : noList (e6 s) = true := by
  show (true && (true && (true && (noLists (s.ps.map e2) && (noLists (s.ts.map PyData.int) && (noLists (s.hs.map PyData.int) && true)))))) = true
  rw [nl_e2s, nl_ints, nl_ints]; rfl
structure Sum6.Ok (s : Sum6) : Prop where
  w1 : 1 ≤ s.w
  w3 : s.w ≤ 3
  l2 : s.l ≤ 2
  h1 : -300 + 2 * (s.hs.length : Int) ≤ s.h
  h2 : s.h ≤ 300
  t1 : 0 ≤ s.t
  t2 : s.t < 8
  pl : s.ps.length + 2 * s.hs.length ≤ 40
  tl : s.ts.length + s.hs.length ≤ 12
  hl : s.hs.length ≤ 5
  pp : ∀ p, p ∈ s.ps → 0 < p.1 ∧ p.1 % 2 = 0 ∧ 1 ≤ p.2 ∧ p.2 ≤ 7
  po : s.ps.Pairwise fun a b => a.1 < b.1
  tp : ∀ t, t ∈ s.ts → 0 < t
  to' : s.ts.Pairwise (· < ·)
  hp : ∀ b, b ∈ s.hs → 2 * (s.w : Int) + 1 + s.l ≤ b ∧ b ≤ 300
  ho : s.hs.Pairwise (· < ·)
theorem mdD (i j : Int) (h : 0 < j) : opI2 .mod i j = .ok (.int (i % j)) := by
  show guardR (decide (0 < j)) _ = _
  rw [decide_eq_true h]; rfl
theorem fdD (i j : Int) (h : 0 < j) (h2 : j.natAbs.log2 < 9000) : opI2 .fdiv i j = .ok (.int (i / j)) := by
  show guardR (decide (0 < j) && decide (j.natAbs.log2 < 9000)) _ = _
  rw [decide_eq_true h, decide_eq_true h2]; rfl
def slD (s : Option PyData) : Sl := s.map fun p => (false, p)
/-! ### tables of ints -/
def putZ (l : List (Int × Int)) (k v : Int) : List (Int × Int) := if (l.any fun q => decide (q.1 = k)) = true then l.map (fun q => if q.1 = k then (q.1, v) else q) else l ++ [(k, v)]
def tI (l : List (Int × Int)) : List (Int × PyData) := l.map fun q => (q.1, .int q.2)
theorem scs_tI (l : List (Int × Int)) : scs (tI l) = true := List.all_eq_true.mpr fun q hq => by
  obtain ⟨r, _, rfl⟩ := List.mem_map.mp hq
  rfl
theorem any_key {α : Type} (l : List (Int × α)) (k : Int) : (l.any fun q => decide (q.1 = k)) = decide (k ∈ l.map (·.1)) := by
  induction l with
  | nil => rfl
  | cons q l ih =>
    rw [List.any_cons, ih]
    by_cases h : q.1 = k
    · rw [decide_eq_true h, decide_eq_true (show k ∈ (q :: l).map (·.1) by rw [← h]; exact List.mem_cons_self)]; rfl
    · rw [decide_eq_false h, Bool.false_or]
      exact decide_eq_decide.mpr ⟨fun z => List.mem_cons_of_mem _ z, fun z => (List.mem_cons.mp z).resolve_left fun e => h e.symm⟩
theorem keys_tI (l : List (Int × Int)) : (tI l).map (·.1) = l.map (·.1) := by unfold tI; rw [List.map_map]; rfl
theorem putI_tI (l : List (Int × Int)) (k v : Int) : putI (tI l) k (.int v) = tI (putZ l k v) := by
  unfold putI putZ
  rw [any_key, any_key, keys_tI]
  by_cases h : k ∈ l.map (·.1)
  · rw [decide_eq_true h, if_pos rfl, if_pos rfl]
    unfold tI
    rw [List.map_map, List.map_map]
    refine List.map_congr_left fun q _ => ?_
    show (if q.1 = k then (q.1, PyData.int v) else (q.1, PyData.int q.2)) = ((if q.1 = k then (q.1, v) else q).1, PyData.int (if q.1 = k then (q.1, v) else q).2)
    by_cases e : q.1 = k
    · rw [if_pos e, if_pos e]
    · rw [if_neg e, if_neg e]
  · rw [decide_eq_false h, if_neg (by decide), if_neg (by decide)]
    unfold tI
    rw [List.map_append]; rfl
theorem putZ_keys (l : List (Int × Int)) (k v : Int) : (putZ l k v).map (·.1) = if k ∈ l.map (·.1) then l.map (·.1) else l.map (·.1) ++ [k] := by
  unfold putZ
  rw [any_key]
  by_cases h : k ∈ l.map (·.1)
  · rw [decide_eq_true h, if_pos rfl, if_pos h, List.map_map]
    refine List.map_congr_left fun q _ => ?_
    show (if q.1 = k then (q.1, v) else q).1 = q.1
    split <;> rfl
  · rw [decide_eq_false h, if_neg (by decide), if_neg h, List.map_append]; rfl
theorem putZ_mem {l : List (Int × Int)} {k v : Int} {q : Int × Int} (h : q ∈ putZ l k v) : q ∈ l ∨ q = (k, v) := by
  unfold putZ at h
  by_cases c : (l.any fun q => decide (q.1 = k)) = true
  · rw [if_pos c] at h
    obtain ⟨r, hr, e⟩ := List.mem_map.mp h
    by_cases e2 : r.1 = k
    · rw [if_pos e2, e2] at e; exact .inr e.symm
    · rw [if_neg e2] at e; exact .inl (e ▸ hr)
  · rw [if_neg c] at h
    exact (List.mem_append.mp h).imp id fun z => List.mem_singleton.mp z
theorem nodup_put {l : List Int} (h : l.Nodup) (k : Int) : (if k ∈ l then l else l ++ [k]).Nodup := by
  by_cases c : k ∈ l
  · rw [if_pos c]; exact h
  · rw [if_neg c]
    exact List.nodup_append.mpr ⟨h, List.pairwise_singleton _ _, fun a ha b hb => by rw [List.mem_singleton.mp hb]; exact fun e => c (e ▸ ha)⟩
theorem len_put (l : List Int) (k : Int) : (if k ∈ l then l else l ++ [k]).length ≤ l.length + 1 := by
  split
  · omega
  · rw [List.length_append]; exact Nat.le_refl _
theorem len_putZ (l : List (Int × Int)) (k v : Int) : (putZ l k v).length ≤ l.length + 1 := by
  have h := congrArg List.length (putZ_keys l k v)
  rw [List.length_map] at h
  rw [h]
  have := len_put (l.map (·.1)) k
  rw [List.length_map] at this
  exact this
def vz (l : List (Int × Int)) (k : Int) : Int := ((l.find? fun q => decide (q.1 = k)).map (·.2)).getD 0
theorem valI_tI {l : List (Int × Int)} {k : Int} (h : k ∈ l.map (·.1)) : valI (tI l) k = some (.int (vz l k)) ∧ (k, vz l k) ∈ l := by
  induction l with
  | nil => cases h
  | cons q l ih =>
    by_cases e : q.1 = k
    · refine ⟨?_, ?_⟩
      · unfold valI vz tI
        rw [List.map_cons, List.find?_cons, List.find?_cons, decide_eq_true e]; rfl
      · unfold vz
        rw [List.find?_cons, decide_eq_true e]
        show (k, q.2) ∈ q :: l
        rw [← e]
        exact List.mem_cons_self
    · obtain ⟨h1, h2⟩ := ih ((List.mem_cons.mp h).resolve_left fun z => e z.symm)
      have e3 : vz (q :: l) k = vz l k := by
        unfold vz
        rw [List.find?_cons, decide_eq_false e]
      refine ⟨?_, by rw [e3]; exact List.mem_cons_of_mem _ h2⟩
      rw [e3, ← h1]
      unfold valI tI
      rw [List.map_cons, List.find?_cons, decide_eq_false e]
theorem intsP_int (l : List Int) : intsP (l.map .int) = some l := by
  induction l with
  | nil => rfl
  | cons i l ih => show (intsP (l.map .int)).map _ = _; rw [ih]; rfl
theorem dsrt_ok {l : List (Int × PyData)} (h : l.length < 10000) : dsrtV l = .ok (.list ((sortI (l.map (·.1))).map .int)) := by
  unfold dsrtV
  rw [decide_eq_true h, guard_true, show (l.map fun kv => PyData.int kv.1) = (l.map (·.1)).map .int by rw [List.map_map]; rfl]
  unfold sortV
  rw [intsP_int]
theorem sort_lt {l : List Int} (h : l.Nodup) : (sortI l).Pairwise (· < ·) := by
  have h1 := sortI_sorted l
  have h2 : (sortI l).Nodup := (sortI_perm l).nodup_iff.mpr h
  exact (h1.and h2).imp fun {a b} z => by have := z.1; have := z.2; omega
theorem ev_cj {Φ : Nat → List PyData → R PyData} {ρ : PEnv} {a b : E} {x y : Bool} (h1 : evE Φ a ρ = .ok (.bool x)) (h2 : evE Φ b ρ = .ok (.bool y)) : evE Φ (.conj a b) ρ = .ok (.bool (x && y)) := by
  rw [e_conj, h1]
  cases x with
  | false => rfl
  | true => exact h2
end
section
/-! ### the steps that fit -/
def bitI (x b : Int) : Bool := decide (x / 2 ^ b.toNat % 2 = 1)
theorem bit_and {t b : Int} (ht : 0 ≤ t) (hb : 0 ≤ b) : (((opV .shr (.int t) (.int b)).bind fun x => opV .band x (.int 1)).bind fun x => cmV .eq x (.int 1)) = .ok (.bool (bitI t b)) := by
  show (((guardR (decide (0 ≤ b)) (R.ok (PyData.int (t / 2 ^ b.toNat)))).bind fun x => opV .band x (.int 1)).bind fun x => cmV .eq x (.int 1)) = _
  rw [decide_eq_true hb]
  show R.ok (PyData.bool (decide (Builtin.bitAnd (t / 2 ^ b.toNat) 1 = 1))) = _
  rw [band_one (Int.ediv_nonneg ht (Int.le_of_lt (Int.pow_pos (by decide))))]; rfl
theorem odd_mod {e : Int} : ((opV .mod (.int e) (.int 2)).bind fun x => cmV .eq x (.int 1)) = .ok (.bool (decide (e % 2 = 1))) := by
  show ((opI2 .mod e 2).bind fun x => cmV .eq x (.int 1)) = _
  rw [mdD _ _ (by decide)]; rfl
theorem take_filt {α : Type} {l : List α} {i : Nat} {a : α} (f : α → Bool) (h : l[i]? = some a) : (l.take (i + 1)).filter f = (l.take i).filter f ++ (if f a = true then [a] else []) := by
  rw [List.take_add_one, h, List.filter_append]
  congr 1
  show ([a] : List α).filter f = _
  rw [List.filter_cons]
  split <;> rfl
end
section
def c_added : List S := [.ife (.cmp .eq (.bin .band (.var 2) (.cst (.int 1))) (.cst (.int 1))) [.asg (.nm 0) (.bin .add (.var 0) (.var 3)), .asg (.nm 3) (.neg (.var 3)), .asg (.nm 2) (.bin .bxor (.var 2) (.cst (.int 1)))] [], .ife (.cmp .gt (.var 2) (.cst (.int 0))) [.asg (.nm 1) (.call 78 false [.var 1, .var 2, .var 3] [])] [], .ret false (.tup [.bin .mod (.var 0) (.cst (.int 8)), .var 1])]
def f_added (Φ : Nat → List PyData → R PyData) : List PyData → R PyData := fn Φ 4 4 c_added
def c_put_in : List S := [.asg (.nm 3) (.lst []), .asg (.nm 4) (.cst (.int 0)), .loop (.nm 5) .seq [.var 0] [.ife (.cmp .eq (.idx (.var 5) (.cst (.int 0))) (.var 1)) [.asg (.nm 4) (.idx (.var 5) (.cst (.int 1)))] [.app 3 (.var 5)]], .asg (.nm 6) (.bin .mod (.bin .add (.var 4) (.var 2)) (.cst (.int 8))), .ife (.cmp .gt (.var 6) (.cst (.int 0))) [.app 3 (.tup [.var 1, .var 6])] [], .ret false (.bi .tuple1 [.bi .sorted1 [.var 3]])]
def f_put_in (Φ : Nat → List PyData → R PyData) : List PyData → R PyData := fn Φ 3 7 c_put_in
/-! ### turns put to turns -/
def insP (x : Int × Int) : List (Int × Int) → List (Int × Int)
  | [] => [x]
  | y :: l => if y.1 < x.1 then y :: insP x l else x :: y :: l
def sortP : List (Int × Int) → List (Int × Int)
  | [] => []
  | x :: l => insP x (sortP l)
theorem insP_perm (x : Int × Int) : ∀ l : List (Int × Int), (insP x l).Perm (x :: l)
  | [] => List.Perm.refl _
  | y :: l => by
    unfold insP
    split
    · exact ((insP_perm x l).cons y).trans (List.Perm.swap x y l)
    · exact List.Perm.refl _
theorem sortP_perm : ∀ l : List (Int × Int), (sortP l).Perm l
  | [] => List.Perm.refl _
  | x :: l => (insP_perm x (sortP l)).trans ((sortP_perm l).cons x)
theorem insP_srt (x : Int × Int) : ∀ l : List (Int × Int), (∀ y, y ∈ l → y.1 ≠ x.1) → l.Pairwise (fun a b => a.1 < b.1) → (insP x l).Pairwise (fun a b => a.1 < b.1)
  | [], _, _ => List.pairwise_singleton _ _
  | y :: l, hn, h => by
    unfold insP
    obtain ⟨h1, h2⟩ := List.pairwise_cons.mp h
    have ny := hn y List.mem_cons_self
    split
    · rename_i c
      refine List.pairwise_cons.mpr ⟨fun z hz => ?_, insP_srt x l (fun z hz => hn z (List.mem_cons_of_mem _ hz)) h2⟩
      rcases List.mem_cons.mp ((insP_perm x l).mem_iff.mp hz) with rfl | hz
      · exact c
      · exact h1 z hz
    · rename_i c
      refine List.pairwise_cons.mpr ⟨fun z hz => ?_, h⟩
      rcases List.mem_cons.mp hz with rfl | hz
      · omega
      · have := h1 z hz; omega
theorem sortP_srt : ∀ l : List (Int × Int), (l.map (·.1)).Nodup → (sortP l).Pairwise (fun a b => a.1 < b.1)
  | [], _ => List.Pairwise.nil
  | x :: l, h => by
    rw [List.map_cons, List.nodup_cons] at h
    refine insP_srt x _ (fun y hy e => h.1 ?_) (sortP_srt l h.2)
    rw [← e]
    exact List.mem_map.mpr ⟨y, (sortP_perm l).mem_iff.mp hy, rfl⟩
theorem ltK_pairs {x y : Int × Int} (h : x.1 ≠ y.1) : ltK (tupKeyP (e2 x)) (tupKeyP (e2 y)) = decide (x.1 < y.1) :=
  PyProof.Rows.lex_diff (O := PyProof.Rows.itemOrd) (x := Sum.inl x.1) (y := Sum.inl y.1) (r := [Sum.inl x.2]) (t := [Sum.inl y.2]) fun e => h (Sum.inl.inj e)
theorem sortT_pairs : ∀ l : List (Int × Int), (l.map (·.1)).Nodup → sortT (l.map e2) = (sortP l).map e2
  | [], _ => rfl
  | x :: l, h => by
    rw [List.map_cons, List.nodup_cons] at h
    have ins : ∀ m : List (Int × Int), (∀ y, y ∈ m → y.1 ≠ x.1) → insT (e2 x) (m.map e2) = (insP x m).map e2 := fun m => by
      induction m with
      | nil => intro _; rfl
      | cons y m ih =>
        intro hn
        have ny := hn y List.mem_cons_self
        have ih := ih fun z hz => hn z (List.mem_cons_of_mem _ hz)
        show (if ltK (tupKeyP (e2 y)) (tupKeyP (e2 x)) = true then e2 y :: insT (e2 x) (m.map e2) else e2 x :: e2 y :: m.map e2) = _
        rw [ltK_pairs ny, ih]
        show _ = (if y.1 < x.1 then y :: insP x m else x :: y :: m).map e2
        by_cases c : y.1 < x.1
        · rw [decide_eq_true c, if_pos rfl, if_pos c]; rfl
        · rw [decide_eq_false c, if_neg (by decide), if_neg c]; rfl
    show insT (e2 x) (sortT (l.map e2)) = (insP x (sortP l)).map e2
    rw [sortT_pairs l h.2]
    refine ins _ fun y hy e => h.1 ?_
    rw [← e]
    exact List.mem_map.mpr ⟨y, (sortP_perm l).mem_iff.mp hy, rfl⟩
theorem sort_pairs {l : List (Int × Int)} (h : (l.map (·.1)).Nodup) : biV .sorted1 [.list (l.map e2)] = .ok (.list ((sortP l).map e2)) := by
  show sortV (l.map e2) = _
  cases l with
  | nil => rfl
  | cons x l =>
    unfold sortV
    show guardR (((x :: l).map e2).all (tupOk false)) (R.ok (PyData.list (sortT ((x :: l).map e2)))) = _
    rw [show ((x :: l).map e2).all (tupOk false) = true from List.all_eq_true.mpr fun q hq => by
      obtain ⟨r, _, rfl⟩ := List.mem_map.mp hq
      rfl, guard_true, sortT_pairs _ h]
/-! ### what a table holds -/
theorem vz_cons (q : Int × Int) (l : List (Int × Int)) (k : Int) : vz (q :: l) k = if q.1 = k then q.2 else vz l k := by
  unfold vz
  rw [List.find?_cons]
  by_cases h : q.1 = k
  · rw [decide_eq_true h, if_pos h]; rfl
  · rw [decide_eq_false h, if_neg h]
theorem vz_no {l : List (Int × Int)} {k : Int} (h : k ∉ l.map (·.1)) : vz l k = 0 := by
  induction l with
  | nil => rfl
  | cons q l ih =>
    rw [vz_cons, if_neg fun e => h (by rw [← e]; exact List.mem_cons_self), ih fun z => h (List.mem_cons_of_mem _ z)]
theorem vz_mem {l : List (Int × Int)} (hn : (l.map (·.1)).Nodup) {q : Int × Int} (h : q ∈ l) : vz l q.1 = q.2 := by
  induction l with
  | nil => cases h
  | cons p l ih =>
    rw [List.map_cons, List.nodup_cons] at hn
    rw [vz_cons]
    rcases List.mem_cons.mp h with rfl | h
    · rw [if_pos rfl]
    · rw [if_neg fun e => hn.1 (by rw [e]; exact List.mem_map.mpr ⟨q, h, rfl⟩)]
      exact ih hn.2 h
theorem vz_perm {l m : List (Int × Int)} (hn : (l.map (·.1)).Nodup) (p : m.Perm l) (k : Int) : vz m k = vz l k := by
  have hm : (m.map (·.1)).Nodup := (p.map _).nodup_iff.mpr hn
  by_cases h : k ∈ l.map (·.1)
  · obtain ⟨q, hq, rfl⟩ := List.mem_map.mp h
    rw [vz_mem hn hq, vz_mem hm (p.mem_iff.mpr hq)]
  · rw [vz_no h, vz_no fun z => h ((p.map _).mem_iff.mp z)]
theorem vz_app {l m : List (Int × Int)} (k : Int) : vz (l ++ m) k = if k ∈ l.map (·.1) then vz l k else vz m k := by
  induction l with
  | nil => rfl
  | cons q l ih =>
    rw [List.cons_append, vz_cons, vz_cons, ih]
    by_cases h : q.1 = k
    · rw [if_pos h, if_pos h, if_pos (show k ∈ (q :: l).map (·.1) by rw [← h]; exact List.mem_cons_self)]
    · rw [if_neg h, if_neg h]
      by_cases c : k ∈ l.map (·.1)
      · rw [if_pos c, if_pos (show k ∈ (q :: l).map (·.1) from List.mem_cons_of_mem _ c)]
      · rw [if_neg c, if_neg (show ¬ k ∈ (q :: l).map (·.1) from fun z => c ((List.mem_cons.mp z).resolve_left fun e => h e.symm))]
theorem vz_filter {l : List (Int × Int)} (b k : Int) : vz (l.filter fun p => !decide (p.1 = b)) k = if k = b then 0 else vz l k := by
  induction l with
  | nil => split <;> rfl
  | cons q l ih =>
    rw [List.filter_cons]
    by_cases h : q.1 = b
    · rw [if_neg (by rw [decide_eq_true h]; decide), ih, vz_cons]
      by_cases c : k = b
      · rw [if_pos c, if_pos c]
      · rw [if_neg c, if_neg c, if_neg fun e => c (e.symm.trans h)]
    · rw [if_pos (by rw [decide_eq_false h]; rfl), vz_cons, vz_cons, ih]
      by_cases e : q.1 = k
      · rw [if_pos e, if_pos e, if_neg fun z => h (e.trans z)]
      · rw [if_neg e, if_neg e]
structure Canon (ps : List (Int × Int)) : Prop where
  pp : ∀ p, p ∈ ps → 0 < p.1 ∧ p.1 % 2 = 0 ∧ 1 ≤ p.2 ∧ p.2 ≤ 7
  po : ps.Pairwise fun a b => a.1 < b.1
theorem Canon.nd {ps : List (Int × Int)} (c : Canon ps) : (ps.map (·.1)).Nodup := List.pairwise_map.mpr (c.po.imp fun h => Int.ne_of_lt h)
theorem Canon.range {ps : List (Int × Int)} (c : Canon ps) (k : Int) : 0 ≤ vz ps k ∧ vz ps k < 8 := by
  by_cases h : k ∈ ps.map (·.1)
  · obtain ⟨q, hq, rfl⟩ := List.mem_map.mp h
    rw [vz_mem c.nd hq]
    have := c.pp q hq
    omega
  · rw [vz_no h]
    omega
theorem Canon.sup {ps : List (Int × Int)} (c : Canon ps) {k : Int} (h : vz ps k ≠ 0) : 0 < k ∧ k % 2 = 0 := by
  by_cases hk : k ∈ ps.map (·.1)
  · obtain ⟨q, hq, rfl⟩ := List.mem_map.mp hk
    have := c.pp q hq
    exact ⟨this.1, this.2.1⟩
  · exact absurd (vz_no hk) h
theorem Canon.mem {ps : List (Int × Int)} (c : Canon ps) (q : Int × Int) : q ∈ ps ↔ vz ps q.1 = q.2 ∧ q.2 ≠ 0 := by
  constructor
  · intro h
    have := c.pp q h
    exact ⟨vz_mem c.nd h, by omega⟩
  · rintro ⟨h1, h2⟩
    by_cases hk : q.1 ∈ ps.map (·.1)
    · obtain ⟨p, hp, e⟩ := List.mem_map.mp hk
      have := vz_mem c.nd hp
      have e2 : p = q := Prod.ext e (by rw [← h1, ← e, this])
      exact e2 ▸ hp
    · exact absurd ((vz_no hk).symm.trans h1).symm h2
/-- two tables that hold the same are the same -/
theorem Canon.uniq {ps qs : List (Int × Int)} (c : Canon ps) (d : Canon qs) (h : ∀ k, vz ps k = vz qs k) : ps = qs := by
  have n1 : ps.Nodup := c.po.imp fun {a b} z e => by rw [e] at z; exact Int.lt_irrefl _ z
  have n2 : qs.Nodup := d.po.imp fun {a b} z e => by rw [e] at z; exact Int.lt_irrefl _ z
  have pm : ps.Perm qs := (List.perm_ext_iff_of_nodup n1 n2).mpr fun q => by rw [c.mem, d.mem, h]
  exact List.Perm.eq_of_pairwise (le := fun a b : Int × Int => a.1 < b.1) (fun a b _ _ h1 h2 => by omega) c.po d.po pm
/-! ### one turn put in -/
def Sp_put_in (F : List PyData → R PyData) : Prop := ∀ (ps : List (Int × Int)) (b e : Int), Canon ps → 0 < b → b % 2 = 0 → ps.length ≤ 10000 → ∃ qs, Canon qs ∧ qs.length ≤ ps.length + 1 ∧ (∀ k, vz qs k = if k = b then (vz ps b + e) % 8 else vz ps k) ∧ F [.tuple (ps.map e2), .int b, .int e] = .ok (.tuple (qs.map e2))
theorem s_put_in (Φ : Nat → List PyData → R PyData) : Sp_put_in (f_put_in Φ) := by
  intro ps b e c hb hb2 hl
  have r := c.range b
  have n8 := Int.emod_nonneg (vz ps b + e) (show (8 : Int) ≠ 0 by decide)
  have l8 := Int.emod_lt_of_pos (vz ps b + e) (show (0 : Int) < 8 by decide)
  obtain ⟨v, hv⟩ : ∃ v, (vz ps b + e) % 8 = v := ⟨_, rfl⟩
  obtain ⟨X, hX⟩ : ∃ X, (ps.filter fun p => !decide (p.1 = b)) ++ (if 0 < v then [(b, v)] else []) = X := ⟨_, rfl⟩
  have fl := List.length_filter_le (fun p : Int × Int => !decide (p.1 = b)) ps
  have nX : (X.map (·.1)).Nodup := by
    rw [← hX, List.map_append]
    refine List.nodup_append.mpr ⟨?_, by split <;> simp, fun x hx y hy => ?_⟩
    · exact List.pairwise_map.mpr ((c.po.filter _).imp fun h => Int.ne_of_lt h)
    · obtain ⟨q, hq, rfl⟩ := List.mem_map.mp hx
      have := (List.mem_filter.mp hq).2
      split at hy
      · rw [List.mem_singleton.mp hy]
        simpa using this
      · cases hy
  have vX : ∀ k, vz X k = if k = b then v else vz ps k := fun k => by
    rw [← hX, vz_app]
    by_cases hk : k = b
    · rw [if_pos hk, hk, if_neg ?_]
      · by_cases h0 : 0 < v
        · rw [if_pos h0, vz_cons, if_pos rfl]
        · rw [if_neg h0]
          show (0 : Int) = v
          omega
      · intro z
        obtain ⟨q, hq, e⟩ := List.mem_map.mp z
        have := (List.mem_filter.mp hq).2
        rw [decide_eq_true e] at this
        cases this
    · rw [if_neg hk]
      by_cases hm : k ∈ (ps.filter fun p => !decide (p.1 = b)).map (·.1)
      · rw [if_pos hm, vz_filter, if_neg hk]
      · rw [if_neg hm]
        have e1 : vz (if 0 < v then [(b, v)] else []) k = 0 := by
          split
          · rw [vz_cons, if_neg fun e => hk e.symm]; rfl
          · rfl
        have e2 := vz_no hm
        rw [vz_filter, if_neg hk] at e2
        rw [e1, e2]
  have cX : Canon (sortP X) := by
    refine ⟨fun p hp => ?_, sortP_srt X nX⟩
    have hp := (sortP_perm X).mem_iff.mp hp
    rw [← hX] at hp
    rcases List.mem_append.mp hp with hp | hp
    · exact c.pp p (List.mem_filter.mp hp).1
    · split at hp
      · rw [List.mem_singleton.mp hp]
        exact ⟨hb, hb2, by show 1 ≤ v; omega, by show v ≤ 7; omega⟩
      · cases hp
  refine ⟨sortP X, cX, ?_, fun k => by rw [vz_perm nX (sortP_perm X), vX, hv], ?_⟩
  · rw [(sortP_perm X).length_eq, ← hX, List.length_append]
    have : (if 0 < v then [(b, v)] else []).length ≤ 1 := by split <;> simp
    omega
  refine f_T rfl ?_
  unfold c_put_in
  one_sign
  refine t_asg_l (ps := []) (ρ1 := [V (.tuple (ps.map e2)), V (.int b), V (.int e), O [], none, none, none]) (by rfl) (by rfl) ?_
  refine t_asg_n (p := PyData.int 0) (ρ1 := [V (.tuple (ps.map e2)), V (.int b), V (.int e), O [], V (PyData.int 0), none, none]) (by rfl) (by rfl) (by rfl) ?_
  refine t_forL ps e2 (p := .tuple (ps.map e2)) (ρ1 := [V (.tuple (ps.map e2)), V (.int b), V (.int e), O [], V (PyData.int 0), none, none]) (I := fun i ρ => ∃ s : Sl, ρ = [V (.tuple (ps.map e2)), V (.int b), V (.int e), O (((ps.take i).filter fun p => !decide (p.1 = b)).map e2), V (.int (vz (ps.take i) b)), s, none]) (K := fun _ => False) (by rfl) (.inl rfl) (by rfl) ⟨none, rfl⟩ ?_ (fun _ h => h.elim) ?_
  · rintro i p ρ hi ⟨s, rfl⟩
    simp only [List.set_cons_zero, List.set_cons_succ]
    have tf := take_filt (fun p : Int × Int => !decide (p.1 = b)) hi
    have tv : vz (ps.take (i + 1)) b = if p.1 = b then p.2 else vz (ps.take i) b := by
      rw [List.take_add_one, hi, vz_app]
      show (if b ∈ (ps.take i).map (·.1) then vz (ps.take i) b else vz [p] b) = _
      rw [vz_cons]
      by_cases h : p.1 = b
      · rw [if_pos h, if_pos h, if_neg ?_]
        intro z
        obtain ⟨q, hq, e⟩ := List.mem_map.mp z
        obtain ⟨j, hj, hj2⟩ := List.mem_take_iff_getElem.mp hq
        have hil := get_lt hi
        have lt := List.pairwise_iff_getElem.mp c.po j i (by omega) hil (by omega)
        have e3 : ps[i] = p := Option.some.inj ((List.getElem?_eq_getElem hil).symm.trans hi)
        rw [hj2, e3, e, h] at lt
        exact Int.lt_irrefl _ lt
      · rw [if_neg h, if_neg h]
        by_cases hm : b ∈ (ps.take i).map (·.1)
        · rw [if_pos hm]
        · rw [if_neg hm, vz_no hm]; rfl
    rw [tf, tv]
    have fl2 := List.length_filter_le (fun p : Int × Int => !decide (p.1 = b)) (ps.take i)
    rw [List.length_take] at fl2
    generalize hQ : (Lp _ _ _ : R Fl → Prop) = QL
    refine t_if (t := decide (p.1 = b)) (cm_eq_ii) (fun h => ?_) (fun h => ?_)
    · have h := of_decide_eq_true h
      refine t_asg_n (p := .int p.2) (ρ1 := [V (.tuple (ps.map e2)), V (.int b), V (.int e), O (((ps.take i).filter fun p => !decide (p.1 = b)).map e2), V (.int p.2), V (e2 p), none]) (by rfl) rfl (by rfl) ?_
      rw [← hQ]
      refine t_nil ⟨V (e2 p), ?_⟩
      rw [decide_eq_true h, if_pos h]
      simp only [Bool.not_true, Bool.false_eq_true, if_false, List.append_nil]
    · have h := of_decide_eq_false h
      refine t_app (p := e2 p) (xs := ((ps.take i).filter fun p => !decide (p.1 = b)).map e2) (by rfl) (by rfl) (by rw [List.length_map]; omega) rfl (by rfl) ?_
      rw [← hQ]
      refine t_nil ⟨V (e2 p), ?_⟩
      rw [decide_eq_false h, if_neg h]
      simp only [Bool.not_false, if_true, List.map_append]
      rfl
  rintro ρ ⟨s, rfl⟩
  rw [List.take_length]
  have nw : evE Φ (.bin .mod (.bin .add (.var 4) (.var 2)) (.cst (.int 8))) [V (.tuple (ps.map e2)), V (.int b), V (.int e), O ((ps.filter fun p => !decide (p.1 = b)).map e2), V (.int (vz ps b)), s, none] = .ok (.int v) := by
    rw [e_bin, e_bin]
    show opI2 .mod (vz ps b + e) 8 = _
    rw [mdD _ _ (by decide), hv]
  refine t_asg_n (p := PyData.int v) (ρ1 := [V (.tuple (ps.map e2)), V (.int b), V (.int e), O ((ps.filter fun p => !decide (p.1 = b)).map e2), V (.int (vz ps b)), s, V (PyData.int v)]) (by exact nw) (by rfl) (by rfl) ?_
  refine t_ifj (fun ρ => ρ = [V (.tuple (ps.map e2)), V (.int b), V (.int e), O (X.map e2), V (.int (vz ps b)), s, V (PyData.int v)]) (t := decide (0 < v)) (by rw [e_cmp]; exact cm_gt) (fun h => ?_) (fun h => ?_) ?_
  · refine t_app (p := e2 (b, v)) (xs := (ps.filter fun p => !decide (p.1 = b)).map e2) (by rfl) (by rfl) (by rw [List.length_map]; omega) rfl (by rfl) (t_nil (nxt ?_))
    rw [← hX, if_pos (of_decide_eq_true h), List.map_append]; rfl
  · refine t_nil (nxt ?_)
    rw [← hX, if_neg (of_decide_eq_false h), List.append_nil]
  rintro ρ rfl
  refine t_ret (p := .tuple ((sortP X).map e2)) (ev_tuple (ev_bi1 (x := .list (X.map e2)) (by rfl) (sort_pairs nX))) rfl
theorem nat_xor_set {n j : Nat} (h : n / 2 ^ j % 2 = 1) : (n ^^^ 2 ^ j) + 2 ^ j = n := by
  have h1 := Bits.nat_xor_add_and n (2 ^ j)
  rw [nat_band, if_pos h] at h1
  omega
theorem bxor_set {b : Int} {j : Nat} (hb : 0 ≤ b) (h : b / 2 ^ j % 2 = 1) : Builtin.bitXor b (2 ^ j) = b - 2 ^ j ∧ 0 ≤ b - 2 ^ j := by
  obtain ⟨n, rfl⟩ : ∃ n : Nat, b = n := ⟨b.toNat, by omega⟩
  have e1 : ((2 ^ j : Nat) : Int) = 2 ^ j := by simp
  have h2 : n / 2 ^ j % 2 = 1 := by
    have : ((n / 2 ^ j % 2 : Nat) : Int) = 1 := by
      rw [Int.natCast_emod, Int.natCast_ediv, e1]; exact h
    omega
  have h3 := nat_xor_set h2
  rw [← e1, bxor_n]
  generalize n ^^^ 2 ^ j = x at *
  omega
def evb (b : Int) : Int := b - b % 2
def sgb (b e : Int) : Int := if b % 2 = 1 then -e else e
def Sp_added (F : List PyData → R PyData) : Prop := ∀ (t : Int) (ps : List (Int × Int)) (b e : Int), Canon ps → 0 ≤ b → ps.length ≤ 10000 → ∃ qs, Canon qs ∧ qs.length ≤ ps.length + 1 ∧ (∀ k, vz qs k = if k = evb b ∧ 0 < k then (vz ps k + sgb b e) % 8 else vz ps k) ∧ F [.int t, .tuple (ps.map e2), .int b, .int e] = .ok (.tuple [.int ((if b % 2 = 1 then t + e else t) % 8), .tuple (qs.map e2)])
theorem s_added (Φ : Nat → List PyData → R PyData) (h1 : Sp_put_in (Φ 78)) : Sp_added (f_added Φ) := by
  intro t ps b e c hb hl
  suffices h : T (evSs Φ 1000000 c_added (startP 4 [.int t, .tuple (ps.map e2), .int b, .int e])) (fun r => ∃ qs, Canon qs ∧ qs.length ≤ ps.length + 1 ∧ (∀ k, vz qs k = if k = evb b ∧ 0 < k then (vz ps k + sgb b e) % 8 else vz ps k) ∧ endV r = .ok (.tuple [.int ((if b % 2 = 1 then t + e else t) % 8), .tuple (qs.map e2)])) by
    obtain ⟨qs, a1, a2, a3, a4⟩ := h
    exact ⟨qs, a1, a2, a3, f_T rfl a4⟩
  unfold c_added
  one_sign
  have ev0 : 0 ≤ evb b ∧ evb b % 2 = 0 := by unfold evb; omega
  refine t_ifj (fun ρ => ρ = [V (.int (if b % 2 = 1 then t + e else t)), V (.tuple (ps.map e2)), V (.int (evb b)), V (.int (sgb b e))]) (t := decide (b % 2 = 1)) ?_ (fun h => ?_) (fun h => ?_) ?_
  · rw [e_cmp, e_bin]
    show R.ok (PyData.bool (decide (Builtin.bitAnd b 1 = 1))) = _
    rw [band_one hb]
  · have h := of_decide_eq_true h
    have bx : Builtin.bitXor b 1 = evb b := by
      have := (bxor_set (j := 0) hb (by simpa using h)).1
      unfold evb
      rw [h]
      simpa using this
    refine t_asg_n (p := .int (t + e)) (ρ1 := [V (.int (t + e)), V (.tuple (ps.map e2)), V (.int b), V (.int e)]) (by rfl) rfl (by rfl) ?_
    refine t_asg_n (p := .int (-e)) (ρ1 := [V (.int (t + e)), V (.tuple (ps.map e2)), V (.int b), V (.int (-e))]) (by rfl) rfl (by rfl) ?_
    refine t_asg_n (p := .int (evb b)) (ρ1 := [V (.int (t + e)), V (.tuple (ps.map e2)), V (.int (evb b)), V (.int (-e))]) ?_ rfl (by rfl) (t_nil (nxt ?_))
    · rw [e_bin]
      show R.ok (PyData.int (Builtin.bitXor b 1)) = _
      rw [bx]
    · unfold sgb
      rw [if_pos h, if_pos h]
  · have h := of_decide_eq_false h
    refine t_nil (nxt ?_)
    have : evb b = b := by unfold evb; omega
    unfold sgb
    rw [if_neg h, if_neg h, this]
  rintro ρ rfl
  obtain ⟨T, hT⟩ : ∃ T, (if b % 2 = 1 then t + e else t) = T := ⟨_, rfl⟩
  rw [hT]
  refine t_ifj (fun ρ => ∃ qs, ρ = [V (.int T), V (.tuple (qs.map e2)), V (.int (evb b)), V (.int (sgb b e))] ∧ Canon qs ∧ qs.length ≤ ps.length + 1 ∧ (∀ k, vz qs k = if k = evb b ∧ 0 < k then (vz ps k + sgb b e) % 8 else vz ps k)) (t := decide (0 < evb b)) (by rw [e_cmp]; exact cm_gt) (fun h => ?_) (fun h => ?_) ?_
  · have h := of_decide_eq_true h
    obtain ⟨qs, q1, q2, q3, q4⟩ := h1 ps (evb b) (sgb b e) c h ev0.2 hl
    refine t_asg_n (p := .tuple (qs.map e2)) (ρ1 := [V (.int T), V (.tuple (qs.map e2)), V (.int (evb b)), V (.int (sgb b e))]) q4 (nl_e2s qs) (by rfl) (t_nil (nxt ⟨qs, rfl, q1, q2, fun k => ?_⟩))
    rw [q3]
    by_cases hk : k = evb b
    · rw [if_pos hk, if_pos ⟨hk, by omega⟩, hk]
    · rw [if_neg hk, if_neg fun z => hk z.1]
  · have h := of_decide_eq_false h
    refine t_nil (nxt ⟨ps, rfl, c, by omega, fun k => ?_⟩)
    rw [if_neg fun z => by omega]
  rintro ρ ⟨qs, rfl, q1, q2, q3⟩
  refine t_ret (p := .tuple [.int (T % 8), .tuple (qs.map e2)]) ?_ ⟨qs, q1, q2, q3, rfl⟩
  rw [e_tup, es_cons, es_cons, e_bin]
  show ((opI2 .mod T 8).bind fun p => R.ok (PyData.tuple [p, .tuple (qs.map e2)])) = _
  rw [mdD _ _ (by decide)]; rfl
/-! ### the law's table of turns -/
structure LT (tl : List (Int × Int)) : Prop where
  nd : (tl.map (·.1)).Nodup
  pp : ∀ q, q ∈ tl → 0 ≤ q.1 ∧ q.1 % 2 = 0 ∧ 0 ≤ q.2 ∧ q.2 < 8
  z : (0 : Int) ∈ tl.map (·.1)
theorem LT.range {tl : List (Int × Int)} (c : LT tl) (k : Int) : 0 ≤ vz tl k ∧ vz tl k < 8 := by
  by_cases h : k ∈ tl.map (·.1)
  · obtain ⟨q, hq, rfl⟩ := List.mem_map.mp h
    rw [vz_mem c.nd hq]
    have := c.pp q hq
    omega
  · rw [vz_no h]
    omega
theorem vz_put {l : List (Int × Int)} (k v x : Int) : vz (putZ l k v) x = if x = k then v else vz l x := by
  unfold putZ
  rw [any_key]
  by_cases h : k ∈ l.map (·.1)
  · rw [decide_eq_true h, if_pos rfl]
    induction l with
    | nil => cases h
    | cons q l ih =>
      rw [List.map_cons, vz_cons, vz_cons]
      by_cases e : q.1 = k
      · rw [if_pos e]
        show (if q.1 = x then v else _) = _
        by_cases c : x = k
        · rw [if_pos c, if_pos (e.trans c.symm)]
        · rw [if_neg c, if_neg fun z => c (z.symm.trans e), if_neg fun z => c (z.symm.trans e)]
          by_cases hm : k ∈ l.map (·.1)
          · rw [ih hm, if_neg c]
          · congr 1
            exact (List.map_congr_left fun r hr => if_neg fun z => hm (by rw [← z]; exact List.mem_map.mpr ⟨r, hr, rfl⟩)).trans (List.map_id' l)
      · rw [if_neg e, ih ((List.mem_cons.mp h).resolve_left fun z => e z.symm)]
        by_cases c : x = k
        · rw [if_pos c, if_pos c, if_neg fun z => e (z.trans c)]
        · rw [if_neg c, if_neg c]
  · rw [decide_eq_false h, if_neg (by decide), vz_app]
    by_cases c : x = k
    · rw [if_pos c, c, if_neg h, vz_cons, if_pos rfl]
    · rw [if_neg c]
      by_cases hm : x ∈ l.map (·.1)
      · rw [if_pos hm]
      · rw [if_neg hm, vz_no hm, vz_cons, if_neg fun z => c z.symm]; rfl
theorem LT.put {tl : List (Int × Int)} (c : LT tl) {k v : Int} (h0 : 0 ≤ k) (h1 : k % 2 = 0) (v0 : 0 ≤ v) (v8 : v < 8) : LT (putZ tl k v) := by
  refine ⟨by rw [putZ_keys]; exact nodup_put c.nd k, fun q hq => ?_, ?_⟩
  · rcases putZ_mem hq with hq | rfl
    · exact c.pp q hq
    · exact ⟨h0, h1, v0, v8⟩
  · rw [putZ_keys]
    split
    · exact c.z
    · exact List.mem_append_left _ c.z
theorem dg_tI {l : List (Int × Int)} {k : Int} (h : k ∈ l.map (·.1)) : dgetV (tI l) k = .ok (.int (vz l k)) := by
  unfold dgetV
  rw [(valI_tI h).1]; rfl
theorem val_no {l : List (Int × Int)} {k : Int} (h : k ∉ l.map (·.1)) : valI (tI l) k = none := by
  unfold valI tI
  rw [List.find?_eq_none.mpr fun q hq => ?_]
  · rfl
  · obtain ⟨r, hr, rfl⟩ := List.mem_map.mp hq
    intro z
    exact h (by rw [← of_decide_eq_true z]; exact List.mem_map.mpr ⟨r, hr, rfl⟩)
theorem dg2_tI (l : List (Int × Int)) (k : Int) : dgt2V (tI l) k (.int 0) = .ok (.int (vz l k)) := by
  show R.ok ((valI (tI l) k).getD (.int 0)) = _
  by_cases h : k ∈ l.map (·.1)
  · rw [(valI_tI h).1]; rfl
  · rw [val_no h, vz_no h]; rfl
theorem vz_keys {L : List Int} {f : Int → Int} (hn : L.Nodup) (k : Int) : vz (L.map fun k => (k, f k)) k = if k ∈ L then f k else 0 := by
  have e : ((L.map fun k => (k, f k)).map (·.1)) = L := by rw [List.map_map]; exact (List.map_congr_left fun _ _ => rfl).trans (List.map_id L)
  by_cases h : k ∈ L
  · rw [if_pos h]
    exact vz_mem (q := (k, f k)) (by rw [e]; exact hn) (List.mem_map.mpr ⟨k, h, rfl⟩)
  · rw [if_neg h]
    exact vz_no (by rw [e]; exact h)
/-! ### ties -/
theorem insU_len {α : Type} (lt : α → α → Bool) (x : α) : ∀ l : List α, (insU lt x l).length ≤ l.length + 1
  | [] => Nat.le_refl _
  | y :: l => by
    have := insU_len lt x l
    unfold insU
    split
    · exact Nat.le_refl _
    · split
      · show (insU lt x l).length + 1 ≤ _
        rw [List.length_cons]; omega
      · omega
theorem ssetG_len {α : Type} (lt : α → α → Bool) : ∀ l : List α, (ssetG lt l).length ≤ l.length
  | [] => Nat.le_refl _
  | x :: l => by
    have h1 := insU_len lt x (ssetG lt l)
    have h2 := ssetG_len lt l
    show (insU lt x (ssetG lt l)).length ≤ _
    rw [List.length_cons]; omega
theorem sorted_uniq {M N : List Int} (h1 : M.Pairwise (· < ·)) (h2 : N.Pairwise (· < ·)) (h : ∀ x, x ∈ M ↔ x ∈ N) : M = N :=
  strict_one strict_ltI (h1.imp fun z => decide_eq_true z) (h2.imp fun z => decide_eq_true z) h
end
section
/-! ### dicts whose keys are rows of ints -/
def tQ (l : List (List Int × Int)) : List (List Int × PyData) := l.map fun q => (q.1, .int q.2)
def TT (l : List (List Int × Int)) : Sl := some (true, .dict (tL (tQ l)))
def vq (l : List (List Int × Int)) (k : List Int) : Int := ((l.find? fun q => decide (q.1 = k)).map (·.2)).getD 0
def putQ (l : List (List Int × Int)) (k : List Int) (v : Int) : List (List Int × Int) := if (l.any fun q => decide (q.1 = k)) = true then l.map (fun q => if q.1 = k then (q.1, v) else q) else l ++ [(k, v)]
theorem tQ_sc (l : List (List Int × Int)) : (tQ l).all (fun kv => (scV kv.2).isSome) = true := List.all_eq_true.mpr fun q hq => by
  obtain ⟨r, _, rfl⟩ := List.mem_map.mp hq
  rfl
theorem unT_TQ (l : List (List Int × Int)) : unT (tL (tQ l)) = some (tQ l) := unT_tL (tQ_sc l)
theorem putT_tQ (l : List (List Int × Int)) (k : List Int) (v : Int) : putT (tQ l) k (.int v) = tQ (putQ l k v) := by
  have ha : ((tQ l).any fun kv => decide (kv.1 = k)) = l.any fun q => decide (q.1 = k) := by
    unfold tQ
    rw [List.any_map]; rfl
  unfold putT putQ
  rw [ha]
  by_cases c : (l.any fun q => decide (q.1 = k)) = true
  · rw [if_pos c, if_pos c]
    unfold tQ
    rw [List.map_map, List.map_map]
    refine List.map_congr_left fun q _ => ?_
    show (if q.1 = k then (q.1, PyData.int v) else (q.1, PyData.int q.2)) = ((if q.1 = k then (q.1, v) else q).1, PyData.int (if q.1 = k then (q.1, v) else q).2)
    split <;> rfl
  · rw [if_neg c, if_neg c]
    unfold tQ
    rw [List.map_append]; rfl
theorem valT_tQ (l : List (List Int × Int)) (k : List Int) : valT (tQ l) k = ((l.find? fun q => decide (q.1 = k)).map (·.2)).map PyData.int := by
  unfold valT tQ
  rw [List.find?_map, Option.map_map, Option.map_map]
  rfl
theorem valT_get (l : List (List Int × Int)) (k : List Int) : (valT (tQ l) k).getD (.int 0) = .int (vq l k) := by
  rw [valT_tQ]
  unfold vq
  cases (l.find? fun q => decide (q.1 = k)).map (·.2) <;> rfl
theorem vq_cons (q : List Int × Int) (l : List (List Int × Int)) (k : List Int) : vq (q :: l) k = if q.1 = k then q.2 else vq l k := by
  unfold vq
  rw [List.find?_cons]
  by_cases h : q.1 = k
  · rw [if_pos h, decide_eq_true h]; rfl
  · rw [if_neg h, decide_eq_false h]
theorem vq_mem : ∀ {l : List (List Int × Int)} {q : List Int × Int}, (l.map (·.1)).Nodup → q ∈ l → vq l q.1 = q.2
  | p :: l, q, nd, h => by
    rw [List.map_cons, List.nodup_cons] at nd
    rw [vq_cons]
    rcases List.mem_cons.mp h with rfl | h
    · rw [if_pos rfl]
    · rw [if_neg fun z => nd.1 (by rw [z]; exact List.mem_map.mpr ⟨q, h, rfl⟩)]
      exact vq_mem nd.2 h
  | [], _, _, h => by cases h
theorem valT_mem {l : List (List Int × Int)} {k : List Int} (h : k ∈ l.map (·.1)) : valT (tQ l) k = some (.int (vq l k)) := by
  rw [valT_tQ]
  unfold vq
  cases e : l.find? fun q => decide (q.1 = k) with
  | some q => rfl
  | none =>
    obtain ⟨q, hq, rfl⟩ := List.mem_map.mp h
    have := List.find?_eq_none.mp e q hq
    exact absurd this (by simp)
theorem anyQ (l : List (List Int × Int)) (k : List Int) : (l.any fun q => decide (q.1 = k)) = true ↔ k ∈ l.map (·.1) := by
  rw [List.any_eq_true]
  constructor
  · rintro ⟨q, hq, e⟩
    exact List.mem_map.mpr ⟨q, hq, of_decide_eq_true e⟩
  · intro h
    obtain ⟨q, hq, e⟩ := List.mem_map.mp h
    exact ⟨q, hq, decide_eq_true e⟩
theorem putQ_keys (l : List (List Int × Int)) (k : List Int) (v : Int) : (putQ l k v).map (·.1) = if k ∈ l.map (·.1) then l.map (·.1) else l.map (·.1) ++ [k] := by
  unfold putQ
  by_cases c : k ∈ l.map (·.1)
  · rw [if_pos ((anyQ l k).mpr c), if_pos c, List.map_map]
    refine List.map_congr_left fun q _ => ?_
    show (if q.1 = k then (q.1, v) else q).1 = q.1
    split <;> rfl
  · rw [if_neg fun z => c ((anyQ l k).mp z), if_neg c, List.map_append]; rfl
theorem putQ_nd {l : List (List Int × Int)} (h : (l.map (·.1)).Nodup) (k : List Int) (v : Int) : ((putQ l k v).map (·.1)).Nodup := by
  rw [putQ_keys]
  split
  · exact h
  · rename_i c
    exact List.nodup_append.mpr ⟨h, by simp, fun a ha b hb e => by rw [List.mem_singleton.mp hb] at e; exact c (e ▸ ha)⟩
theorem putQ_len (l : List (List Int × Int)) (k : List Int) (v : Int) : (putQ l k v).length ≤ l.length + 1 := by
  unfold putQ
  split
  · rw [List.length_map]; omega
  · rw [List.length_append]; exact Nat.le_refl _
theorem putQ_mem {l : List (List Int × Int)} {k : List Int} {v : Int} {q : List Int × Int} (h : q ∈ putQ l k v) : q ∈ l ∨ q = (k, v) := by
  unfold putQ at h
  split at h
  · obtain ⟨r, hr, e⟩ := List.mem_map.mp h
    by_cases c : r.1 = k
    · rw [if_pos c] at e; exact .inr (by rw [← e, c])
    · rw [if_neg c] at e; exact .inl (e ▸ hr)
  · rcases List.mem_append.mp h with h | h
    · exact .inl h
    · exact .inr (List.mem_singleton.mp h)
def sQ (w : List Int → Int) (l : List (List Int × Int)) : Int := (l.map fun p => p.2 * w p.1).sum
theorem sQ_cons (w : List Int → Int) (p : List Int × Int) (l : List (List Int × Int)) : sQ w (p :: l) = p.2 * w p.1 + sQ w l := by unfold sQ; rw [List.map_cons, List.sum_cons]
theorem sQ_app (w : List Int → Int) : ∀ a b : List (List Int × Int), sQ w (a ++ b) = sQ w a + sQ w b
  | [], b => by unfold sQ; simp
  | p :: a, b => by rw [List.cons_append, sQ_cons, sQ_cons, sQ_app w a b, Int.add_assoc]
theorem sQ_upd (w : List Int → Int) (k : List Int) (v : Int) : ∀ l : List (List Int × Int), (l.map (·.1)).Nodup → sQ w (l.map fun q => if q.1 = k then (q.1, v) else q) = sQ w l + if k ∈ l.map (·.1) then (v - vq l k) * w k else 0
  | [], _ => by rw [if_neg (by simp)]; rfl
  | p :: l, nd => by
    rw [List.map_cons, List.nodup_cons] at nd
    have ih := sQ_upd w k v l nd.2
    rw [List.map_cons, sQ_cons, sQ_cons, ih, vq_cons]
    by_cases c : p.1 = k
    · have nk : ¬ k ∈ l.map (·.1) := fun z => nd.1 (c ▸ z)
      rw [if_pos c, if_neg nk, if_pos (show k ∈ (p :: l).map (·.1) by rw [List.map_cons, c]; exact List.mem_cons_self), if_pos c]
      show v * w p.1 + (sQ w l + 0) = _
      rw [c, Int.sub_mul]; omega
    · rw [if_neg c, if_neg c]
      have e : (k ∈ (p :: l).map (·.1)) ↔ k ∈ l.map (·.1) := by
        rw [List.map_cons, List.mem_cons]
        exact ⟨fun h => h.resolve_left fun z => c z.symm, .inr⟩
      by_cases c2 : k ∈ l.map (·.1)
      · rw [if_pos c2, if_pos (e.mpr c2)]; omega
      · rw [if_neg c2, if_neg fun z => c2 (e.mp z)]; omega
theorem vq_no {l : List (List Int × Int)} {k : List Int} (h : ¬ k ∈ l.map (·.1)) : vq l k = 0 := by
  unfold vq
  cases e : l.find? fun q => decide (q.1 = k) with
  | none => rfl
  | some q =>
    have h1 := List.mem_of_find?_eq_some e
    have h2 := List.find?_some e
    exact absurd (List.mem_map.mpr ⟨q, h1, of_decide_eq_true h2⟩) h
theorem sQ_put (w : List Int → Int) {l : List (List Int × Int)} (nd : (l.map (·.1)).Nodup) (k : List Int) (v : Int) : sQ w (putQ l k v) = sQ w l + (v - vq l k) * w k := by
  unfold putQ
  by_cases c : k ∈ l.map (·.1)
  · rw [if_pos ((anyQ l k).mpr c), sQ_upd w k v l nd, if_pos c]
  · rw [if_neg fun z => c ((anyQ l k).mp z), sQ_app, vq_no c, Int.sub_zero, sQ_cons]
    show sQ w l + (v * w k + 0) = _
    omega
section
variable {Φ : Nat → List PyData → R PyData} {w : Nat} {ρ ρ1 : PEnv} {Q : R Fl → Prop} {ss : List S}
theorem t_tnew {i : Nat} (hρ : ρ.set i (TT []) = ρ1) (h : T (evSs Φ w ss ρ1) Q) : T (evSs Φ w (.tnew i :: ss) ρ) Q := by
  have : evS Φ w (.tnew i) ρ = .ok (.nx ρ1) := by rw [← hρ]; rfl
  unfold T
  rw [evSs_c, this]
  exact h
theorem t_tput {i : Nat} {k e : E} {j : List Int} {v : Int} {l : List (List Int × Int)} (he : evE Φ e ρ = .ok (.int v)) (hi : ρ[i]? = some (TT l)) (hk : evE Φ k ρ = .ok (tkP j)) (kk : keyK j = true) (hz : l.length ≤ 16000000) (hρ : ρ.set i (TT (putQ l j v)) = ρ1) (h : T (evSs Φ w ss ρ1) Q) : T (evSs Φ w (.tput i k e :: ss) ρ) Q := by
  have : evS Φ w (.tput i k e) ρ = .ok (.nx ρ1) := by
    show ((evE Φ e ρ).bind fun p => (optR ρ[i]?).bind fun sl => (dslot sl).bind fun ks => (evE Φ k ρ).bind fun y => (keyV y).bind fun k => (optR (unT ks)).bind fun l => guardR (keyK k && ((scV p).isSome && fitsN l.length)) (.ok (Fl.nx (ρ.set i (some (true, .dict (tL (putT l k p)))))))) = _
    rw [he, bind_ok, hi]
    show ((evE Φ k ρ).bind fun y => (keyV y).bind fun k => (optR (unT (tL (tQ l)))).bind fun l => guardR (keyK k && ((scV (.int v)).isSome && fitsN l.length)) (.ok (Fl.nx (ρ.set i (some (true, .dict (tL (putT l k (.int v))))))))) = _
    rw [hk, bind_ok]
    show ((optR (intsK (j.map .int))).bind fun k => (optR (unT (tL (tQ l)))).bind fun l => guardR (keyK k && ((scV (.int v)).isSome && fitsN l.length)) (.ok (Fl.nx (ρ.set i (some (true, .dict (tL (putT l k (.int v))))))))) = _
    rw [intsK_map, unT_TQ]
    show guardR (keyK j && (true && fitsN (tQ l).length)) (.ok (Fl.nx (ρ.set i (some (true, .dict (tL (putT (tQ l) j (.int v)))))))) = _
    rw [kk, show fitsN (tQ l).length = true from decide_eq_true (by unfold tQ; rw [List.length_map]; exact hz), putT_tQ, ← hρ]; rfl
  unfold T
  rw [evSs_c, this]
  exact h
theorem ev_tgt2 {a k : E} {j : List Int} {l : List (List Int × Int)} (ha : evE Φ a ρ = .ok (.dict (tL (tQ l)))) (hk : evE Φ k ρ = .ok (tkP j)) (kk : keyK j = true) : evE Φ (.tgt2 a k (.cst (.int 0))) ρ = .ok (.int (vq l j)) := by
  show ((evE Φ a ρ).bind fun x => (tdV x).bind fun l => (evE Φ k ρ).bind fun y => (keyV y).bind fun k => (evE Φ (.cst (.int 0)) ρ).bind fun z => tgt2V l k z) = _
  rw [ha, bind_ok]
  show ((optR (unT (tL (tQ l)))).bind fun l => (evE Φ k ρ).bind fun y => (keyV y).bind fun k => (evE Φ (.cst (.int 0)) ρ).bind fun z => tgt2V l k z) = _
  rw [unT_TQ]
  show ((evE Φ k ρ).bind fun y => (keyV y).bind fun k => (evE Φ (.cst (.int 0)) ρ).bind fun z => tgt2V (tQ l) k z) = _
  rw [hk, bind_ok]
  show ((optR (intsK (j.map .int))).bind fun k => (evE Φ (.cst (.int 0)) ρ).bind fun z => tgt2V (tQ l) k z) = _
  rw [intsK_map]
  show guardR (keyK j && true) (R.ok ((valT (tQ l) j).getD (.int 0))) = _
  rw [kk, valT_get]; rfl
theorem ev_tget {a k : E} {j : List Int} {l : List (List Int × Int)} (ha : evE Φ a ρ = .ok (.dict (tL (tQ l)))) (hk : evE Φ k ρ = .ok (tkP j)) (kk : keyK j = true) (hm : j ∈ l.map (·.1)) : evE Φ (.tget a k) ρ = .ok (.int (vq l j)) := by
  show ((evE Φ a ρ).bind fun x => (evE Φ k ρ).bind fun y => (tdV x).bind fun l => (keyV y).bind fun k => tgetV l k) = _
  rw [ha, bind_ok, hk, bind_ok]
  show ((optR (unT (tL (tQ l)))).bind fun l => (optR (intsK (j.map .int))).bind fun k => tgetV l k) = _
  rw [unT_TQ, intsK_map]
  show guardR (keyK j) (optR (valT (tQ l) j)) = _
  rw [kk, valT_mem hm]; rfl
end
/-! ### the keys, sorted -/
def insK (x : List Int) : List (List Int) → List (List Int)
  | [] => [x]
  | y :: l => if ltL y x = true then y :: insK x l else x :: y :: l
def sortK : List (List Int) → List (List Int)
  | [] => []
  | x :: l => insK x (sortK l)
theorem tkK (k : List Int) : tupKeyP (tkP k) = k.map Sum.inl := by
  show (k.map PyData.int).filterMap keyI = k.map Sum.inl
  rw [List.filterMap_map, ← List.filterMap_eq_map]
  rfl
theorem insT_K (x : List Int) : ∀ l : List (List Int), insT (tkP x) (l.map tkP) = (insK x l).map tkP
  | [] => rfl
  | y :: l => by
    show (if ltK (tupKeyP (tkP y)) (tupKeyP (tkP x)) = true then tkP y :: insT (tkP x) (l.map tkP) else tkP x :: tkP y :: l.map tkP) = (if ltL y x = true then y :: insK x l else x :: y :: l).map tkP
    rw [tkK, tkK, insT_K x l]
    show (if ltL y x = true then _ else _) = _
    split <;> rfl
theorem sortT_K : ∀ l : List (List Int), sortT (l.map tkP) = (sortK l).map tkP
  | [] => rfl
  | x :: l => by
    show insT (tkP x) (sortT (l.map tkP)) = _
    rw [sortT_K l, insT_K]; rfl
theorem insK_perm (x : List Int) : ∀ l : List (List Int), (insK x l).Perm (x :: l)
  | [] => List.Perm.refl _
  | y :: l => by
    unfold insK
    split
    · exact ((insK_perm x l).cons y).trans (List.Perm.swap x y l)
    · exact List.Perm.refl _
theorem sortK_perm : ∀ l : List (List Int), (sortK l).Perm l
  | [] => List.Perm.refl _
  | x :: l => (insK_perm x _).trans ((sortK_perm l).cons x)
theorem insK_up (x : List Int) : ∀ {l : List (List Int)}, ¬ x ∈ l → l.Pairwise (fun a b => ltL a b = true) → (insK x l).Pairwise fun a b => ltL a b = true
  | [], _, _ => List.pairwise_singleton _ _
  | y :: l, hx, h => by
    unfold insK
    rw [List.mem_cons] at hx
    obtain ⟨h1, h2⟩ := List.pairwise_cons.mp h
    by_cases g : ltL y x = true
    · rw [if_pos g]
      refine List.pairwise_cons.mpr ⟨fun z hz => ?_, insK_up x (fun z => hx (.inr z)) h2⟩
      rcases List.mem_cons.mp ((insK_perm x l).mem_iff.mp hz) with rfl | hz
      · exact g
      · exact h1 z hz
    · rw [if_neg g]
      have gx : ltL x y = true := by
        cases q : ltL x y with
        | true => rfl
        | false => exact absurd (strict_ltL.tri _ _ q (by simpa using g)) fun z => hx (.inl z)
      refine List.pairwise_cons.mpr ⟨fun z hz => ?_, h⟩
      rcases List.mem_cons.mp hz with rfl | hz
      · exact gx
      · exact strict_ltL.tr _ _ _ gx (h1 z hz)
theorem sortK_up : ∀ {l : List (List Int)}, l.Nodup → (sortK l).Pairwise fun a b => ltL a b = true
  | [], _ => List.Pairwise.nil
  | x :: l, h => by
    rw [List.nodup_cons] at h
    exact insK_up x (fun z => h.1 ((sortK_perm l).mem_iff.mp z)) (sortK_up h.2)
end
section
def c_bits_in : List S := [.ret false (.comp [1] (.nm 1) .rng1 [.bitl (.var 0)] (some (.cmp .eq (.bin .band (.bin .shr (.var 0) (.var 1)) (.cst (.int 1))) (.cst (.int 1)))) (.var 1))]
def f_bits_in (Φ : Nat → List PyData → R PyData) : List PyData → R PyData := fn Φ 1 2 c_bits_in
def c_parts_of : List S := [.asg (.nm 1) (.lst []), .loop (.tp [2, 3]) .enm [.var 0] [.app 1 (.tup [.var 3]), .loop (.nm 4) .rng2 [.bin .add (.var 2) (.cst (.int 1)), .bi .len [.var 0]] [.app 1 (.tup [.var 3, .idx (.var 0) (.var 4)]), .loop (.nm 5) .rng2 [.bin .add (.var 4) (.cst (.int 1)), .bi .len [.var 0]] [.app 1 (.tup [.var 3, .idx (.var 0) (.var 4), .idx (.var 0) (.var 5)])]]], .ret false (.var 1)]
def f_parts_of (Φ : Nat → List PyData → R PyData) : List PyData → R PyData := fn Φ 1 6 c_parts_of
def c_form_of : List S := [.tnew 1, .loop (.tp [2, 3]) .seq [.var 0] [.loop (.nm 4) .seq [.call 73 false [.call 14 false [.var 2] []] []] [.tput 1 (.var 4) (.bin .mod (.bin .add (.tgt2 (.var 1) (.var 4) (.cst (.int 0))) (.bin .mul (.var 3) (.idx (.cst (.tuple [.int 0, .int 1, .int 6, .int 4])) (.bi .len [.var 4])))) (.cst (.int 8)))]], .ret false (.bi .tuple1 [.comp [4] (.nm 4) .seq [.tsrt (.var 1)] (some (.cmp .ne (.tget (.var 1) (.var 4)) (.cst (.int 0)))) (.tup [.var 4, .tget (.var 1) (.var 4)])])]
def f_form_of (Φ : Nat → List PyData → R PyData) : List PyData → R PyData := fn Φ 1 5 c_form_of
/-! ### the bits of a set -/
def bsN (n : Nat) : List Nat := (List.range 2000).filter fun b => n.testBit b
theorem bsN_mem {n b : Nat} (h : n < 2 ^ 2000) : b ∈ bsN n ↔ n.testBit b = true := by
  unfold bsN
  rw [List.mem_filter, List.mem_range]
  refine ⟨fun h => h.2, fun hb => ⟨?_, hb⟩⟩
  cases Nat.decLt b 2000 with
  | isTrue z => exact z
  | isFalse z =>
    have := Nat.testBit_lt_two_pow (Nat.lt_of_lt_of_le h (Nat.pow_le_pow_right (by decide) (show 2000 ≤ b by omega)))
    rw [this] at hb; cases hb
theorem bsN_up (n : Nat) : (bsN n).Pairwise (· < ·) := List.Pairwise.filter _ List.pairwise_lt_range
theorem bs_cut {n l : Nat} (hl : l ≤ 2000) (h : n < 2 ^ l) : bsN n = (List.range l).filter fun b => n.testBit b := by
  obtain ⟨d, hd⟩ : ∃ d, 2000 = l + d := ⟨2000 - l, by omega⟩
  unfold bsN
  rw [hd, List.range_add, List.filter_append]
  rw [show ((List.range d).map (l + ·)).filter (fun b => n.testBit b) = [] from List.filter_eq_nil_iff.mpr fun b hb => by
    obtain ⟨k, _, rfl⟩ := List.mem_map.mp hb
    rw [Nat.testBit_lt_two_pow (Nat.lt_of_lt_of_le h (Nat.pow_le_pow_right (by decide) (Nat.le_add_right _ _)))]
    exact Bool.false_ne_true]
  exact List.append_nil _
def eN (l : List Nat) : PyData := .list (l.map fun b : Nat => PyData.int b)
theorem bitI_N (n b : Nat) : bitI (n : Int) (b : Int) = n.testBit b := by
  unfold bitI
  rw [Int.toNat_natCast]
  have e : ((n : Int) / 2 ^ b % 2 = 1) ↔ n / 2 ^ b % 2 = 1 := by
    have e1 : ((2 ^ b : Nat) : Int) = 2 ^ b := by simp
    rw [← e1, ← Int.natCast_ediv, show (2 : Int) = ((2 : Nat) : Int) from rfl, ← Int.natCast_emod]
    omega
  rw [show n.testBit b = decide (n / 2 ^ b % 2 = 1) from Nat.testBit_eq_decide_div_mod_eq]
  exact decide_eq_decide.mpr e
def Sp_bitsin (F : List PyData → R PyData) : Prop := ∀ n : Nat, n < 2 ^ 1999 → F [.int n] = .ok (eN (bsN n))
theorem s_bitsin (Φ : Nat → List PyData → R PyData) : Sp_bitsin (f_bits_in Φ) := by
  intro n hn
  refine f_T rfl ?_
  unfold c_bits_in
  one_sign
  obtain ⟨l, hl, hl2, el⟩ : ∃ l : Nat, l ≤ 1999 ∧ n < 2 ^ l ∧ evE Φ (.bitl (.var 0)) [V (.int n), none] = .ok (.int l) := by
    refine ⟨if n = 0 then 0 else n.log2 + 1, ?_, ?_, ?_⟩
    · by_cases h : n = 0
      · rw [if_pos h]; omega
      · rw [if_neg h]
        have := (Nat.log2_lt h).mpr hn
        omega
    · by_cases h : n = 0
      · rw [if_pos h, h]; decide
      · rw [if_neg h]
        exact (Nat.log2_lt h).mp (Nat.lt_succ_self _)
    · show bitlV (.int n) = _
      show R.ok (PyData.int ((Builtin.Int.intBits (n : Int) : Nat) : Int)) = _
      have : Builtin.Int.intBits (n : Int) = if n = 0 then 0 else n.log2 + 1 := by
        unfold Builtin.Int.intBits
        simp
      rw [this]
  refine t_ret (p := eN (bsN n)) ?_ (by rfl)
  have key := ev_comp (Φ := Φ) (own := [1]) (tg := .nm 1) (s := .rng1) (es := [.bitl (.var 0)]) (c := some (.cmp .eq (.bin .band (.bin .shr (.var 0) (.var 1)) (.cst (.int 1))) (.cst (.int 1)))) (elt := .var 1) (ps := [.int l]) (ρ := [V (.int n), none]) (ρ1 := [V (.int n), none]) (List.range l) (fun k : Nat => PyData.int k) (t := fun b : Nat => n.testBit b) (g := fun k : Nat => PyData.int k) (by rw [es_cons, el]; rfl) (by
    show guardR (ends62 l) (.ok (rangeP 0 (l : Int).toNat 1)) = _
    rw [Int.toNat_natCast, ends_n (by omega)]
    unfold rangeP
    congr 1
    refine List.map_congr_left fun k _ => ?_
    rw [Int.mul_one, Int.zero_add]) rfl (by rw [List.length_range]; omega) (by rfl) (fun k hk => ⟨_, rfl, by
      rw [ec_some]
      have := bit_and (t := (n : Int)) (b := (k : Int)) (Int.natCast_nonneg _) (Int.natCast_nonneg _)
      rw [bitI_N] at this
      refine (congrArg (fun r => R.bind r boolV) this).trans ?_
      rfl, fun _ => rfl⟩)
  refine key.trans ?_
  unfold eN
  rw [bs_cut (l := l) (by omega) hl2]
/-! ### its parts -/
def pairsL (x : Int) : List Int → List (List Int)
  | [] => []
  | y :: l => [x, y] :: (l.map fun z => [x, y, z]) ++ pairsL x l
def partsL : List Int → List (List Int)
  | [] => []
  | x :: l => [x] :: pairsL x l ++ partsL l
theorem partsL_drop {l : List Int} {i : Nat} {x : Int} (h : l[i]? = some x) : partsL (l.drop i) = [x] :: pairsL x (l.drop (i + 1)) ++ partsL (l.drop (i + 1)) := by
  rw [List.drop_eq_getElem?_toList_append, h]
  rfl
theorem pairsL_drop {x : Int} {l : List Int} {j : Nat} {y : Int} (h : l[j]? = some y) : pairsL x (l.drop j) = [x, y] :: ((l.drop (j + 1)).map fun z => [x, y, z]) ++ pairsL x (l.drop (j + 1)) := by
  rw [List.drop_eq_getElem?_toList_append, h]
  rfl
theorem trip_drop {x y : Int} {l : List Int} {i : Nat} {z : Int} (h : l[i]? = some z) : ((l.drop i).map fun z => [x, y, z]) = [x, y, z] :: ((l.drop (i + 1)).map fun z => [x, y, z]) := by
  rw [List.drop_eq_getElem?_toList_append, h]
  rfl
theorem pairsL_len (x : Int) : ∀ l : List Int, l.length ≤ 20 → (pairsL x l).length ≤ 21 * l.length
  | [], _ => Nat.le_refl _
  | y :: l, h => by
    rw [List.length_cons] at h
    have ih := pairsL_len x l (by omega)
    show ([x, y] :: (l.map fun z => [x, y, z]) ++ pairsL x l).length ≤ _
    rw [List.length_append, List.length_cons, List.length_map, List.length_cons]
    omega
theorem partsL_len : ∀ l : List Int, l.length ≤ 20 → (partsL l).length ≤ 421 * l.length
  | [], _ => Nat.le_refl _
  | x :: l, h => by
    rw [List.length_cons] at h
    have ih := partsL_len l (by omega)
    have := pairsL_len x l (by omega)
    show ([x] :: pairsL x l ++ partsL l).length ≤ _
    rw [List.length_append, List.length_cons, List.length_cons]
    omega
def Sp_partsof (F : List PyData → R PyData) : Prop := ∀ L : List Int, L.length ≤ 20 → F [.list (L.map .int)] = .ok (.list ((partsL L).map tkP))
section
variable {Φ : Nat → List PyData → R PyData} {w : Nat} {ρ ρ1 : PEnv} {Q : R Fl → Prop} {ss : List S}
theorem t_forEF {α : Type} {vs : List Nat} {e : E} {b : List S} {p : PyData} (l : List α) (en : α → PyData) {I : Nat → PEnv → Prop} {K : PEnv → Prop} (he : evE Φ e ρ = .ok p) (hp : p = .tuple (l.map en) ∨ p = .list (l.map en)) (hρ : share (lk e ++ []) ρ = ρ1) (h0 : I 0 ρ1)
    (hs : ∀ (i : Nat) (a : α) ρ, l[i]? = some a → I i ρ → ∃ ρ2, setAll vs [.int i, en a] ρ = .ok ρ2 ∧ T (evSs Φ w b ρ2) (Lp (I (i + 1)) K Q)) (hK : ∀ ρ, K ρ → T (evSs Φ w ss ρ) Q) (hk : ∀ ρ', I l.length ρ' → T (evSs Φ w ss ρ') Q) : T (evSs Φ w (.loop (.tp vs) .enm [e] b :: ss) ρ) Q := by
  refine t_for (ps := [p]) (items := enumP (l.map en)) (I := I) (K := K) ?_ ?_ hρ h0 ?_ hK ?_
  · rw [es_cons, he]; rfl
  · rcases hp with rfl | rfl <;> rfl
  · intro i x ρ hx h
    unfold enumP at hx
    rw [List.getElem?_mapIdx, List.getElem?_map] at hx
    cases hl : l[i]? with
    | none => rw [hl] at hx; cases hx
    | some a =>
      rw [hl] at hx
      have := Option.some.inj hx
      subst this
      exact hs i a ρ hl h
  · rw [show (enumP (l.map en)).length = l.length by unfold enumP; simp]; exact hk
end
theorem s_partsof (Φ : Nat → List PyData → R PyData) : Sp_partsof (f_parts_of Φ) := by
  intro L hL
  have bound := partsL_len L hL
  refine f_T rfl ?_
  unfold c_parts_of
  one_sign
  refine t_asg_l (ps := ([] : List (List Int)).map tkP) (ρ1 := [V (.list (L.map .int)), O (([] : List (List Int)).map tkP), none, none, none, none]) (by rfl) (by rfl) ?_
  have len : ∀ ρ : PEnv, ρ[0]? = some (V (.list (L.map .int))) → evE Φ (.bi .len [.var 0]) ρ = .ok (.int L.length) := fun ρ h => by
    rw [show (.int L.length : PyData) = .int ((L.map PyData.int).length : Nat) by rw [List.length_map]]
    exact ev_len (by rw [e_var, h]; rfl)
  have at_ : ∀ (ρ : PEnv) (v j : Nat) (y : Int), ρ[0]? = some (V (.list (L.map .int))) → ρ[v]? = some (V (.int j)) → L[j]? = some y → evE Φ (.idx (.var 0) (.var v)) ρ = .ok (.int y) := fun ρ v j y h1 h2 h3 => by
    have lt : j < L.length := (List.getElem?_eq_some_iff.mp h3).1
    rw [e_idx, e_var, h1, e_var, h2]
    show idxV (.list (L.map .int)) (.int j) = _
    rw [ix_l, at_n (by rw [List.length_map]; exact lt), List.getElem_map, (List.getElem?_eq_some_iff.mp h3).2]; rfl
  refine t_forEF (vs := [2, 3]) L PyData.int (p := .list (L.map .int)) (ρ1 := [V (.list (L.map .int)), O (([] : List (List Int)).map tkP), none, none, none, none]) (I := fun k ρ => ∃ (P : List (List Int)) (s2 s3 s4 s5 : Sl), ρ = [V (.list (L.map .int)), O (P.map tkP), s2, s3, s4, s5] ∧ P ++ partsL (L.drop k) = partsL L) (K := fun _ => False) (by rfl) (.inr rfl) (by rfl) ⟨[], none, none, none, none, rfl, by rw [List.drop_zero]; rfl⟩ ?_ (fun _ h => h.elim) ?_
  · rintro k x ρ hk ⟨P, s2, s3, s4, s5, rfl, inv⟩
    refine ⟨_, rfl, ?_⟩
    have klt : k < L.length := (List.getElem?_eq_some_iff.mp hk).1
    simp only [List.set_cons_zero, List.set_cons_succ]
    rw [partsL_drop hk] at inv
    have bl := congrArg List.length inv
    rw [List.length_append, List.length_append, List.length_cons] at bl
    refine t_app (p := tkP [x]) (xs := P.map tkP) (ρ1 := [V (.list (L.map .int)), O ((P ++ [[x]]).map tkP), V (.int k), V (.int x), s4, s5]) (by rfl) (by rfl) (by rw [List.length_map]; omega) (by rfl) (by rw [List.map_append]; rfl) ?_
    generalize hQ : (Lp _ _ _ : R Fl → Prop) = QQ
    refine t_for2 (lo := ((k + 1 : Nat) : Int)) (hi := L.length) (ρ1 := [V (.list (L.map .int)), O ((P ++ [[x]]).map tkP), V (.int k), V (.int x), s4, s5]) (I := fun j ρ => ∃ (P : List (List Int)) (s4 s5 : Sl), ρ = [V (.list (L.map .int)), O (P.map tkP), V (.int k), V (.int x), s4, s5] ∧ P ++ pairsL x (L.drop (k + 1 + j)) ++ partsL (L.drop (k + 1)) = partsL L) (K := fun _ => False) (by rfl) (len _ rfl) (by omega) (by omega) (by rfl) ⟨_, s4, s5, rfl, by rw [← inv, List.append_assoc, List.append_assoc]; rfl⟩ ?_ (fun _ h => h.elim) ?_
    · rintro j ρ hj ⟨P, s4, s5, rfl, inv⟩
      simp only [List.set_cons_zero, List.set_cons_succ]
      have jlt : k + 1 + j < L.length := by omega
      obtain ⟨y, hy⟩ : ∃ y, L[k + 1 + j]? = some y := ⟨_, List.getElem?_eq_getElem jlt⟩
      rw [pairsL_drop hy] at inv
      have bl := congrArg List.length inv
      rw [List.length_append, List.length_append, List.length_append, List.length_cons] at bl
      have ej : ((k + 1 : Nat) : Int) + (j : Nat) = ((k + 1 + j : Nat) : Int) := by omega
      rw [ej]
      have yv := at_ [V (.list (L.map .int)), O (P.map tkP), V (.int k), V (.int x), V (.int ((k + 1 + j : Nat) : Int)), s5] 4 _ y rfl rfl hy
      refine t_app (p := tkP [x, y]) (xs := P.map tkP) (ρ1 := [V (.list (L.map .int)), O ((P ++ [[x, y]]).map tkP), V (.int k), V (.int x), V (.int ((k + 1 + j : Nat) : Int)), s5]) (by rfl) ?_ (by rw [List.length_map]; omega) (by rfl) (by rw [List.map_append]; rfl) ?_
      · rw [e_tup, es_cons, es_cons, yv]; rfl
      have yv2 := at_ [V (.list (L.map .int)), O ((P ++ [[x, y]]).map tkP), V (.int k), V (.int x), V (.int ((k + 1 + j : Nat) : Int)), s5] 4 _ y rfl rfl hy
      generalize hQ2 : (Lp _ _ _ : R Fl → Prop) = Q2
      refine t_for2 (lo := ((k + 1 + j + 1 : Nat) : Int)) (hi := L.length) (ρ1 := [V (.list (L.map .int)), O ((P ++ [[x, y]]).map tkP), V (.int k), V (.int x), V (.int ((k + 1 + j : Nat) : Int)), s5]) (I := fun i ρ => ∃ (P : List (List Int)) (s5 : Sl), ρ = [V (.list (L.map .int)), O (P.map tkP), V (.int k), V (.int x), V (.int ((k + 1 + j : Nat) : Int)), s5] ∧ P ++ ((L.drop (k + 1 + j + 1 + i)).map fun z => [x, y, z]) ++ pairsL x (L.drop (k + 1 + j + 1)) ++ partsL (L.drop (k + 1)) = partsL L) (K := fun _ => False) (by rfl) (len _ rfl) (by omega) (by omega) (by rfl) ⟨_, s5, rfl, by rw [← inv]; simp only [List.append_assoc, List.cons_append, List.nil_append, Nat.add_zero]⟩ ?_ (fun _ h => h.elim) ?_
      · rintro i ρ hi ⟨P, s5, rfl, inv⟩
        simp only [List.set_cons_zero, List.set_cons_succ]
        have ilt : k + 1 + j + 1 + i < L.length := by omega
        obtain ⟨z, hz⟩ : ∃ z, L[k + 1 + j + 1 + i]? = some z := ⟨_, List.getElem?_eq_getElem ilt⟩
        rw [trip_drop hz] at inv
        have bl := congrArg List.length inv
        rw [List.length_append, List.length_append, List.length_append, List.length_cons] at bl
        have ei : ((k + 1 + j + 1 : Nat) : Int) + (i : Nat) = ((k + 1 + j + 1 + i : Nat) : Int) := by omega
        rw [ei]
        have yv := at_ [V (.list (L.map .int)), O (P.map tkP), V (.int k), V (.int x), V (.int ((k + 1 + j : Nat) : Int)), V (.int ((k + 1 + j + 1 + i : Nat) : Int))] 4 _ y rfl rfl hy
        have zv := at_ [V (.list (L.map .int)), O (P.map tkP), V (.int k), V (.int x), V (.int ((k + 1 + j : Nat) : Int)), V (.int ((k + 1 + j + 1 + i : Nat) : Int))] 5 _ z rfl rfl hz
        refine t_app (p := tkP [x, y, z]) (xs := P.map tkP) (ρ1 := [V (.list (L.map .int)), O ((P ++ [[x, y, z]]).map tkP), V (.int k), V (.int x), V (.int ((k + 1 + j : Nat) : Int)), V (.int ((k + 1 + j + 1 + i : Nat) : Int))]) (by rfl) ?_ (by rw [List.length_map]; omega) (by rfl) (by rw [List.map_append]; rfl) (t_nil ⟨_, _, rfl, by rw [← inv]; simp only [List.append_assoc, List.cons_append, List.nil_append]; rfl⟩)
        rw [e_tup, es_cons, es_cons, yv, es_cons, zv]; rfl
      · rintro ρ' ⟨P, s5, rfl, inv⟩
        rw [← hQ2]
        refine t_nil ⟨P, _, _, rfl, ?_⟩
        rw [← inv]
        have e0 : ((L.length : Int) - ((k + 1 + j + 1 : Nat) : Int)).toNat = L.length - (k + 1 + j + 1) := by omega
        rw [e0, List.drop_eq_nil_of_le (show L.length ≤ k + 1 + j + 1 + (L.length - (k + 1 + j + 1)) by omega)]
        simp [Nat.add_assoc]
    · rintro ρ' ⟨P, s4, s5, rfl, inv⟩
      rw [← hQ]
      refine t_nil ⟨P, _, _, _, _, rfl, ?_⟩
      rw [← inv]
      have e0 : ((L.length : Int) - ((k + 1 : Nat) : Int)).toNat = L.length - (k + 1) := by omega
      rw [e0, List.drop_eq_nil_of_le (show L.length ≤ k + 1 + (L.length - (k + 1)) by omega)]
      show _ = P ++ [] ++ _
      rw [List.append_nil]
  · rintro ρ' ⟨P, s2, s3, s4, s5, rfl, inv⟩
    rw [List.drop_length] at inv
    have inv : P ++ [] = partsL L := inv
    rw [List.append_nil] at inv
    subst inv
    exact t_ret (by rfl) (by rfl)
end
section
/-! ### turns as sums of products of bits -/
def bsI (z : Int) : List Int := (bsN z.toNat).map fun b : Nat => (b : Int)
theorem pairsL_sub {x : Int} : ∀ {l : List Int} {p : List Int}, p ∈ pairsL x l → p.Sublist (x :: l) ∧ 2 ≤ p.length ∧ p.length ≤ 3
  | [], _, h => by cases h
  | y :: l, p, h => by
    have h : p ∈ [x, y] :: (l.map fun z => [x, y, z]) ++ pairsL x l := h
    rcases List.mem_append.mp h with h | h
    · rcases List.mem_cons.mp h with rfl | h
      · exact ⟨((List.nil_sublist l).cons₂ y).cons₂ x, Nat.le_refl _, by simp⟩
      · obtain ⟨z, hz, rfl⟩ := List.mem_map.mp h
        exact ⟨((List.singleton_sublist.mpr hz).cons₂ y).cons₂ x, by simp, by simp⟩
    · obtain ⟨h1, h2⟩ := pairsL_sub h
      exact ⟨h1.trans ((List.sublist_cons_self y l).cons₂ x), h2⟩
theorem partsL_sub : ∀ {l : List Int} {p : List Int}, p ∈ partsL l → p.Sublist l ∧ 1 ≤ p.length ∧ p.length ≤ 3
  | [], _, h => by cases h
  | x :: l, p, h => by
    have h : p ∈ [x] :: pairsL x l ++ partsL l := h
    rcases List.mem_append.mp h with h | h
    · rcases List.mem_cons.mp h with rfl | h
      · exact ⟨(List.nil_sublist l).cons₂ x, Nat.le_refl _, by simp⟩
      · obtain ⟨h1, h2, h3⟩ := pairsL_sub h
        exact ⟨h1, by omega, h3⟩
    · obtain ⟨h1, h2⟩ := partsL_sub h
      exact ⟨h1.trans (List.sublist_cons_self x l), h2⟩
/-- a set of bits, nought not among them -/
structure BOk (z : Int) : Prop where
  z0 : 0 ≤ z
  z1 : z < 2 ^ 1999
  ev : z % 2 = 0
  few : (bsN z.toNat).length ≤ 20
theorem BOk.pos {z : Int} (h : BOk z) : ∀ b, b ∈ bsI z → 1 ≤ b := fun b hb => by
  obtain ⟨n, hn, rfl⟩ := List.mem_map.mp hb
  have lt : z.toNat < 2 ^ 1999 := by
    have := h.z1
    have e : ((2 ^ 1999 : Nat) : Int) = 2 ^ 1999 := by simp
    rw [← e] at this
    have := h.z0
    omega
  have hb := (bsN_mem (Nat.lt_of_lt_of_le lt (Nat.pow_le_pow_right (by decide) (by decide)))).mp hn
  cases n with
  | zero =>
    rw [Nat.testBit_zero] at hb
    have := of_decide_eq_true hb
    have := h.ev
    have := h.z0
    omega
  | succ n => omega
theorem bsI_up (z : Int) : (bsI z).Pairwise (· < ·) := by
  unfold bsI
  rw [List.pairwise_map]
  exact (bsN_up _).imp fun h => Int.ofNat_lt.mpr h
theorem bsI_len (z : Int) : (bsI z).length = (bsN z.toNat).length := List.length_map _
theorem BOk.key {z : Int} (h : BOk z) {p : List Int} (hp : p ∈ partsL (bsI z)) : keyK p = true ∧ p.Pairwise (· < ·) ∧ p.Sublist (bsI z) := by
  obtain ⟨h1, h2, h3⟩ := partsL_sub hp
  refine ⟨?_, (bsI_up z).sublist h1, h1⟩
  cases p with
  | nil => exact absurd h2 (by decide)
  | cons x p =>
    have := h.pos x (h1.subset List.mem_cons_self)
    show (decide (1 ≤ x) && decide (p.length ≤ 2)) = true
    rw [decide_eq_true this, decide_eq_true (show p.length ≤ 2 by rw [List.length_cons] at h3; omega)]; rfl
def wor (p : List Int) : Int := match p.length with
  | 1 => 1
  | 2 => 6
  | 3 => 4
  | _ => 0
def sumP (w : List Int → Int) (P : List (List Int)) : Int := (P.map fun p => wor p * w p).sum
def totF (w : List Int → Int) (ts : List (Int × Int)) : Int := (ts.map fun p => p.2 * sumP w (partsL (bsI p.1))).sum
def TOk (ts : List (Int × Int)) : Prop := ∀ p, p ∈ ts → BOk p.1 ∧ 0 ≤ p.2 ∧ p.2 < 8
structure FormOk (fm : List (List Int × Int)) : Prop where
  up : (fm.map (·.1)).Pairwise fun a b => ltL a b = true
  key : ∀ p, p ∈ fm → keyK p.1 = true ∧ p.1.Pairwise (· < ·) ∧ 1 ≤ p.2 ∧ p.2 < 8
def eform (fm : List (List Int × Int)) : PyData := .tuple (fm.map fun p => .tuple [tkP p.1, .int p.2])
def formL (l : List (List Int × Int)) : List (List Int × Int) := ((sortK (l.map (·.1))).filter fun k => decide (vq l k ≠ 0)).map fun k => (k, vq l k)
theorem sQ_keys (w : List Int → Int) : ∀ l : List (List Int × Int), (l.map (·.1)).Nodup → sQ w l = ((l.map (·.1)).map fun k => vq l k * w k).sum := fun l nd => by
  unfold sQ
  rw [List.map_map]
  congr 1
  exact List.map_congr_left fun p hp => by
    show p.2 * w p.1 = vq l p.1 * w p.1
    rw [vq_mem nd hp]
theorem sum_perm {a b : List Int} (h : a.Perm b) : a.sum = b.sum := by
  induction h with
  | nil => rfl
  | cons x _ ih => rw [List.sum_cons, List.sum_cons, ih]
  | swap x y l => rw [List.sum_cons, List.sum_cons, List.sum_cons, List.sum_cons]; omega
  | trans _ _ h1 h2 => rw [h1, h2]
theorem sum_filt (g : List Int → Int) (v : List Int → Int) : ∀ K : List (List Int), (K.map fun k => v k * g k).sum = ((K.filter fun k => decide (v k ≠ 0)).map fun k => v k * g k).sum
  | [] => rfl
  | k :: K => by
    rw [List.map_cons, List.sum_cons, sum_filt g v K]
    by_cases h : v k ≠ 0
    · rw [List.filter_cons_of_pos (by simpa using h), List.map_cons, List.sum_cons]
    · rw [List.filter_cons_of_neg (by simpa using h)]
      have : v k = 0 := by omega
      rw [this, Int.zero_mul, Int.zero_add]
theorem sQ_form (w : List Int → Int) {l : List (List Int × Int)} (nd : (l.map (·.1)).Nodup) : sQ w (formL l) = sQ w l := by
  rw [sQ_keys w l nd]
  unfold formL sQ
  rw [List.map_map]
  show ((((sortK (l.map (·.1))).filter fun k => decide (vq l k ≠ 0))).map fun k => vq l k * w k).sum = _
  rw [← sum_filt w (vq l), sum_perm ((sortK_perm (l.map (·.1))).map fun k => vq l k * w k)]
theorem formL_ok {l : List (List Int × Int)} (nd : (l.map (·.1)).Nodup) (hk : ∀ p, p ∈ l → keyK p.1 = true ∧ p.1.Pairwise (· < ·) ∧ 0 ≤ p.2 ∧ p.2 < 8) : FormOk (formL l) where
  up := by
    unfold formL
    rw [List.map_map]
    show (((sortK (l.map (·.1))).filter fun k => decide (vq l k ≠ 0)).map fun k => k).Pairwise _
    rw [List.map_id']
    exact (sortK_up nd).filter _
  key := fun p hp => by
    obtain ⟨k, hk1, rfl⟩ := List.mem_map.mp hp
    obtain ⟨h1, h2⟩ := List.mem_filter.mp hk1
    obtain ⟨q, hq, rfl⟩ := List.mem_map.mp ((sortK_perm _).mem_iff.mp h1)
    have e := vq_mem nd hq
    rw [e] at h2 ⊢
    obtain ⟨a, b, c, d⟩ := hk q hq
    have : q.2 ≠ 0 := of_decide_eq_true h2
    exact ⟨a, b, by show 1 ≤ q.2; omega, d⟩
theorem formL_mem {l : List (List Int × Int)} {p : List Int × Int} (h : p ∈ formL l) : p.1 ∈ l.map (·.1) := by
  obtain ⟨k, hk1, rfl⟩ := List.mem_map.mp h
  exact (sortK_perm _).mem_iff.mp (List.mem_filter.mp hk1).1
def Sp_form (F : List PyData → R PyData) : Prop := ∀ ts : List (Int × Int), TOk ts → ts.length ≤ 1000 → ∃ fm, FormOk fm ∧ (∀ p, p ∈ fm → ∃ q, q ∈ ts ∧ p.1.Sublist (bsI q.1)) ∧ (∀ w, (sQ w fm - totF w ts) % 8 = 0) ∧ F [.tuple (ts.map e2)] = .ok (eform fm)
theorem key_len {p : List Int} (h : keyK p = true) : p.length = 1 ∨ p.length = 2 ∨ p.length = 3 := by
  cases p with
  | nil => cases h
  | cons x p =>
    have h : (decide (1 ≤ x) && decide (p.length ≤ 2)) = true := h
    rw [Bool.and_eq_true] at h
    have := of_decide_eq_true h.2
    rw [List.length_cons]; omega
theorem ix_wor {p : List Int} (h : keyK p = true) : idxV (.tuple [.int 0, .int 1, .int 6, .int 4]) (.int p.length) = .ok (.int (wor p)) := by
  unfold wor
  rcases key_len h with e | e | e <;> rw [e] <;> rfl
structure CInv (ts : List (Int × Int)) (tot : (List Int → Int) → Int) (l : List (List Int × Int)) : Prop where
  nd : (l.map (·.1)).Nodup
  key : ∀ p, p ∈ l → keyK p.1 = true ∧ p.1.Pairwise (· < ·) ∧ 0 ≤ p.2 ∧ p.2 < 8
  sub : ∀ p, p ∈ l → ∃ q, q ∈ ts ∧ p.1.Sublist (bsI q.1)
  sum : ∀ w, (sQ w l - tot w) % 8 = 0
theorem CInv.put {ts : List (Int × Int)} {tot : (List Int → Int) → Int} {l : List (List Int × Int)} (c : CInv ts tot l) {k : List Int} (kk : keyK k = true) (ku : k.Pairwise (· < ·)) (ks : ∃ q, q ∈ ts ∧ k.Sublist (bsI q.1)) (e : Int) :
    CInv ts (fun w => tot w + e * (wor k * w k)) (putQ l k ((vq l k + e * wor k) % 8)) where
  nd := putQ_nd c.nd _ _
  key := fun p hp => by
    rcases putQ_mem hp with h | rfl
    · exact c.key p h
    · exact ⟨kk, ku, Int.emod_nonneg _ (by decide), Int.emod_lt_of_pos _ (by decide)⟩
  sub := fun p hp => by
    rcases putQ_mem hp with h | rfl
    · exact c.sub p h
    · exact ks
  sum := fun w => by
    rw [sQ_put w c.nd]
    have := c.sum w
    have e1 : (vq l k + e * wor k) % 8 = vq l k + e * wor k - 8 * ((vq l k + e * wor k) / 8) := by omega
    rw [e1]
    generalize (vq l k + e * wor k) / 8 = d
    have e2 : (vq l k + e * wor k - 8 * d - vq l k) * w k = e * (wor k * w k) - 8 * (d * w k) := by
      rw [show vq l k + e * wor k - 8 * d - vq l k = e * wor k - 8 * d by omega, Int.sub_mul, Int.mul_assoc, Int.mul_assoc]
    rw [e2]
    generalize e * (wor k * w k) = A
    generalize d * w k = B
    omega
theorem e2_bits {z : Int} (h : BOk z) : z = (z.toNat : Int) ∧ z.toNat < 2 ^ 1999 := by
  have := h.z0
  have h1 := h.z1
  have e : ((2 ^ 1999 : Nat) : Int) = 2 ^ 1999 := by simp
  rw [← e] at h1
  omega
theorem sumP_take (w : List Int → Int) (P : List (List Int)) {i : Nat} {p : List Int} (h : P[i]? = some p) : sumP w (P.take (i + 1)) = sumP w (P.take i) + wor p * w p := by
  unfold sumP
  rw [List.take_add_one, h, List.map_append, List.sum_append]
  show _ + ([wor p * w p] : List Int).sum = _
  simp
theorem totF_take (w : List Int → Int) (ts : List (Int × Int)) {i : Nat} {p : Int × Int} (h : ts[i]? = some p) : totF w (ts.take (i + 1)) = totF w (ts.take i) + p.2 * sumP w (partsL (bsI p.1)) := by
  unfold totF
  rw [List.take_add_one, h, List.map_append, List.sum_append]
  show _ + ([p.2 * sumP w (partsL (bsI p.1))] : List Int).sum = _
  simp
theorem len_take1 {α : Type} {l : List α} {i : Nat} {x : α} (h : l[i]? = some x) : i < l.length := (List.getElem?_eq_some_iff.mp h).1
theorem s_form (Φ : Nat → List PyData → R PyData) (h1 : Sp_bitsin (Φ 14)) (h2 : Sp_partsof (Φ 73)) : Sp_form (f_form_of Φ) := by
  intro ts hts hl
  suffices h : T (evSs Φ 1000000 c_form_of (startP 5 [.tuple (ts.map e2)])) (fun r => ∃ fm, FormOk fm ∧ (∀ p, p ∈ fm → ∃ q, q ∈ ts ∧ p.1.Sublist (bsI q.1)) ∧ (∀ w, (sQ w fm - totF w ts) % 8 = 0) ∧ endV r = .ok (eform fm)) by
    obtain ⟨fm, a1, a2, a3, a4⟩ := h
    exact ⟨fm, a1, a2, a3, f_T rfl a4⟩
  unfold c_form_of
  one_sign
  refine t_tnew (ρ1 := [V (.tuple (ts.map e2)), TT [], none, none, none]) (by rfl) ?_
  refine t_forT (vs := [2, 3]) ts (fun p => [.int p.1, .int p.2]) (p := .tuple (ts.map e2)) (ρ1 := [V (.tuple (ts.map e2)), TT [], none, none, none]) (I := fun i ρ => ∃ (l : List (List Int × Int)) (s2 s3 : Sl) (s4 : Option PyData), ρ = [V (.tuple (ts.map e2)), TT l, s2, s3, slD s4] ∧ CInv ts (fun w => totF w (ts.take i)) l ∧ l.length ≤ 8420 * i) (K := fun _ => False) (by rfl) (.inl rfl) (by rfl) ⟨[], none, none, none, rfl, ⟨List.Pairwise.nil, (fun p hp => by cases hp), (fun p hp => by cases hp), fun w => rfl⟩, Nat.le_refl _⟩ ?_ (fun _ h => h.elim) ?_
  · rintro i p ρ hi ⟨l, s2, s3, s4, rfl, c, ll⟩
    have ilt := len_take1 hi
    have hp := List.mem_of_getElem? hi
    obtain ⟨bo, p0, p8⟩ := hts p hp
    obtain ⟨ez, bz⟩ := e2_bits bo
    refine ⟨_, rfl, ?_⟩
    simp only [List.set_cons_zero, List.set_cons_succ]
    have e1 : evE Φ (.call 14 false [.var 2] []) [V (.tuple (ts.map e2)), TT l, V (.int p.1), V (.int p.2), slD s4] = .ok (.list ((bsI p.1).map .int)) := by
      have := h1 p.1.toNat bz
      rw [← ez] at this
      refine this.trans ?_
      unfold eN bsI
      rw [List.map_map]; rfl
    have few : (bsI p.1).length ≤ 20 := by rw [bsI_len]; exact bo.few
    have e2' : evE Φ (.call 73 false [.call 14 false [.var 2] []] []) [V (.tuple (ts.map e2)), TT l, V (.int p.1), V (.int p.2), slD s4] = .ok (.list ((partsL (bsI p.1)).map tkP)) := by
      rw [e_call, es_cons, e1]
      exact h2 _ few
    have pl := partsL_len _ few
    generalize hQ : (Lp _ _ _ : R Fl → Prop) = QQ
    refine t_forL (partsL (bsI p.1)) tkP (p := .list ((partsL (bsI p.1)).map tkP)) (ρ1 := [V (.tuple (ts.map e2)), TT l, V (.int p.1), V (.int p.2), slD s4]) (I := fun j ρ => ∃ (l : List (List Int × Int)) (s4 : Option PyData), ρ = [V (.tuple (ts.map e2)), TT l, V (.int p.1), V (.int p.2), slD s4] ∧ CInv ts (fun w => totF w (ts.take i) + p.2 * sumP w ((partsL (bsI p.1)).take j)) l ∧ l.length ≤ 8420 * i + j) (K := fun _ => False) e2' (.inr rfl) (by rfl) ⟨l, s4, rfl, ⟨c.nd, c.key, c.sub, fun w => by
      have := c.sum w
      show (sQ w l - (totF w (ts.take i) + p.2 * 0)) % 8 = 0
      rw [Int.mul_zero, Int.add_zero]; exact this⟩, ll⟩ ?_ (fun _ h => h.elim) ?_
    · rintro j k ρ hj ⟨l, s4, rfl, c, ll⟩
      have jlt := len_take1 hj
      obtain ⟨kk, ku, ks⟩ := bo.key (List.mem_of_getElem? hj)
      simp only [List.set_cons_zero, List.set_cons_succ]
      have eg : evE Φ (.tgt2 (.var 1) (.var 4) (.cst (.int 0))) [V (.tuple (ts.map e2)), TT l, V (.int p.1), V (.int p.2), V (tkP k)] = .ok (.int (vq l k)) := ev_tgt2 (by rfl) (by rfl) kk
      have ew : evE Φ (.idx (.cst (.tuple [.int 0, .int 1, .int 6, .int 4])) (.bi .len [.var 4])) [V (.tuple (ts.map e2)), TT l, V (.int p.1), V (.int p.2), V (tkP k)] = .ok (.int (wor k)) := by
        rw [e_idx, e_cst, bind_ok]
        have : evE Φ (.bi .len [.var 4]) [V (.tuple (ts.map e2)), TT l, V (.int p.1), V (.int p.2), V (tkP k)] = .ok (.int k.length) := by
          show biV .len [tkP k] = _
          show R.ok (PyData.int ((k.map PyData.int).length : Int)) = _
          rw [List.length_map]
        rw [this]
        exact ix_wor kk
      have wr : wor k = 1 ∨ wor k = 6 ∨ wor k = 4 := by
        unfold wor
        rcases key_len kk with e | e | e <;> rw [e] <;> simp
      have ev : evE Φ (.bin .mod (.bin .add (.tgt2 (.var 1) (.var 4) (.cst (.int 0))) (.bin .mul (.var 3) (.idx (.cst (.tuple [.int 0, .int 1, .int 6, .int 4])) (.bi .len [.var 4])))) (.cst (.int 8))) [V (.tuple (ts.map e2)), TT l, V (.int p.1), V (.int p.2), V (tkP k)] = .ok (.int ((vq l k + p.2 * wor k) % 8)) := by
        rw [e_bin, e_bin, eg, bind_ok, e_bin, ew]
        show (((opI2 .mul p.2 (wor k)).bind fun y => opV .add (.int (vq l k)) y).bind fun x => opV .mod x (.int 8)) = _
        rw [op_i_mul, g_mul (by omega) (by omega) (by omega) (by omega)]
        exact mdD (vq l k + p.2 * wor k) 8 (by decide)
      refine t_tput (j := k) (v := (vq l k + p.2 * wor k) % 8) (l := l) (ρ1 := [V (.tuple (ts.map e2)), TT (putQ l k ((vq l k + p.2 * wor k) % 8)), V (.int p.1), V (.int p.2), V (tkP k)]) ev (by rfl) (by rfl) kk (by omega) (by rfl) (t_nil ⟨_, some (tkP k), rfl, ?_, ?_⟩)
      · have c2 := c.put kk ku ⟨p, hp, ks⟩ p.2
        refine ⟨c2.nd, c2.key, c2.sub, fun w => ?_⟩
        have := c2.sum w
        rw [sumP_take w _ hj, Int.mul_add]
        rw [← Int.add_assoc]
        exact this
      · have := putQ_len l k ((vq l k + p.2 * wor k) % 8)
        omega
    · rintro ρ' ⟨l, s4, rfl, c, ll⟩
      rw [← hQ]
      refine t_nil ⟨l, _, _, _, rfl, ⟨c.nd, c.key, c.sub, fun w => ?_⟩, by omega⟩
      rw [totF_take w ts hi]
      have := c.sum w
      rw [List.take_length] at this
      exact this
  · rintro ρ' ⟨l, s2, s3, s4, rfl, c, ll⟩
    rw [List.take_length] at c
    have es : evE Φ (.tsrt (.var 1)) [V (.tuple (ts.map e2)), TT l, s2, s3, slD s4] = .ok (.list ((sortK (l.map (·.1))).map tkP)) := by
      show (tdV (.dict (tL (tQ l)))).bind tsrtV = _
      show (optR (unT (tL (tQ l)))).bind tsrtV = _
      rw [unT_TQ]
      show tsrtV (tQ l) = _
      unfold tsrtV
      rw [show ((tQ l).all fun kv => keyK kv.1) = true from List.all_eq_true.mpr fun q hq => by
        obtain ⟨r, hr, rfl⟩ := List.mem_map.mp hq
        exact (c.key r hr).1]
      rw [show ((tQ l).map fun kv => tkP kv.1) = (l.map (·.1)).map tkP by unfold tQ; rw [List.map_map, List.map_map]; rfl, sortT_K]; rfl
    refine t_ret (p := eform (formL l)) ?_ ⟨formL l, formL_ok c.nd c.key, fun p hp => ?_, fun w => by rw [sQ_form w c.nd]; exact c.sum w, rfl⟩
    · refine (ev_tuple (xs := (formL l).map fun p => .tuple [tkP p.1, .int p.2]) ?_).trans rfl
      have km : ∀ k, k ∈ sortK (l.map (·.1)) → k ∈ l.map (·.1) := fun k hk => (sortK_perm _).mem_iff.mp hk
      have kk : ∀ k, k ∈ sortK (l.map (·.1)) → keyK k = true := fun k hk => by
        obtain ⟨q, hq, rfl⟩ := List.mem_map.mp (km k hk)
        exact (c.key q hq).1
      have ll2 : (sortK (l.map (·.1))).length ≤ 16000000 := by
        rw [(sortK_perm _).length_eq, List.length_map]; omega
      have key := ev_compF (Φ := Φ) (own := [4]) (v := 4) (e := (.tsrt (.var 1))) (elt := (.tup [.var 4, .tget (.var 1) (.var 4)])) (ce := (.cmp .ne (.tget (.var 1) (.var 4)) (.cst (.int 0)))) (p := .list ((sortK (l.map (·.1))).map tkP)) (ρ := [V (.tuple (ts.map e2)), TT l, s2, s3, slD s4]) (ρ1 := [V (.tuple (ts.map e2)), TT l, s2, s3, none]) (sortK (l.map (·.1))) tkP (t := fun k => decide (vq l k ≠ 0)) (g := fun k => .tuple [tkP k, .int (vq l k)]) es (.inr rfl) ?_ ll2 (by rfl) (fun k hk => ?_) (fun k hk _ => ?_)
      · refine key.trans ?_
        unfold formL
        rw [List.map_map]; rfl
      · cases s4 <;> rfl
      · rw [e_cmp]
        have : evE Φ (.tget (.var 1) (.var 4)) [V (.tuple (ts.map e2)), TT l, s2, s3, V (tkP k)] = .ok (.int (vq l k)) := ev_tget (by rfl) (by rfl) (kk k hk) (km k hk)
        show (evE Φ (.tget (.var 1) (.var 4)) [V (.tuple (ts.map e2)), TT l, s2, s3, V (tkP k)]).bind _ = _
        rw [this]
        show R.ok (PyData.bool (!decide (vq l k = 0))) = _
        by_cases h : vq l k = 0
        · simp [h]
        · simp [h]
      · have : evE Φ (.tget (.var 1) (.var 4)) [V (.tuple (ts.map e2)), TT l, s2, s3, V (tkP k)] = .ok (.int (vq l k)) := ev_tget (by rfl) (by rfl) (kk k hk) (km k hk)
        show (evE Φ (.tup [.var 4, .tget (.var 1) (.var 4)]) [V (.tuple (ts.map e2)), TT l, s2, s3, V (tkP k)]) = _
        rw [e_tup, es_cons, e_var, es_cons, this]; rfl
    · obtain ⟨q, hq, e⟩ := List.mem_map.mp (formL_mem hp)
      obtain ⟨r, hr, hs⟩ := c.sub q hq
      exact ⟨r, hr, e ▸ hs⟩
end
section
/-! ### a form's value at a setting -/
def prodL (c : Int → Int) : List Int → Int
  | [] => 1
  | x :: l => c x * prodL c l
def kS (c : Int → Int) (l : List Int) : Int := (l.map c).sum
def tS (c : Int → Int) : List Int → Int
  | [] => 0
  | x :: l => c x * kS c l + tS c l
theorem sumP_app (w : List Int → Int) (a b : List (List Int)) : sumP w (a ++ b) = sumP w a + sumP w b := by
  unfold sumP
  rw [List.map_append, List.sum_append]
theorem sumP_cons (w : List Int → Int) (p : List Int) (b : List (List Int)) : sumP w (p :: b) = wor p * w p + sumP w b := by
  unfold sumP
  rw [List.map_cons, List.sum_cons]
theorem kS_cons (c : Int → Int) (x : Int) (l : List Int) : kS c (x :: l) = c x + kS c l := by
  unfold kS
  rw [List.map_cons, List.sum_cons]
theorem sum_trip (c : Int → Int) (x y : Int) : ∀ l : List Int, sumP (prodL c) (l.map fun z => [x, y, z]) = 4 * (c x * (c y * kS c l))
  | [] => by
    show (0 : Int) = 4 * (c x * (c y * 0))
    rw [Int.mul_zero, Int.mul_zero, Int.mul_zero]
  | z :: l => by
    rw [List.map_cons, sumP_cons, sum_trip c x y l, kS_cons]
    show 4 * (c x * (c y * (c z * 1))) + _ = _
    rw [Int.mul_one, Int.mul_add, Int.mul_add, Int.mul_add]
theorem sum_pairs (c : Int → Int) (x : Int) : ∀ l : List Int, sumP (prodL c) (pairsL x l) = c x * (6 * kS c l + 4 * tS c l)
  | [] => by
    show (0 : Int) = c x * (6 * 0 + 4 * 0)
    rw [Int.mul_zero, Int.mul_zero, Int.add_zero, Int.mul_zero]
  | y :: l => by
    show sumP (prodL c) ([x, y] :: (l.map fun z => [x, y, z]) ++ pairsL x l) = _
    rw [sumP_app, sumP_cons, sum_trip, sum_pairs c x l, kS_cons]
    show 6 * (c x * (c y * 1)) + 4 * (c x * (c y * kS c l)) + c x * (6 * kS c l + 4 * tS c l) = c x * (6 * (c y + kS c l) + 4 * (c y * kS c l + tS c l))
    generalize kS c l = k
    generalize tS c l = t
    grind
theorem sum_parts (c : Int → Int) (x : Int) (l : List Int) : sumP (prodL c) (partsL (x :: l)) = c x + c x * (6 * kS c l + 4 * tS c l) + sumP (prodL c) (partsL l) := by
  show sumP (prodL c) ([x] :: pairsL x l ++ partsL l) = _
  rw [sumP_app, sumP_cons, sum_pairs]
  show 1 * (c x * 1) + _ + _ = _
  rw [Int.mul_one, Int.one_mul]
theorem parity {c : Int → Int} (hc : ∀ x, c x = 0 ∨ c x = 1) : ∀ l : List Int, 0 ≤ kS c l ∧ tS c l % 2 = kS c l / 2 % 2 ∧ sumP (prodL c) (partsL l) % 8 = kS c l % 2
  | [] => ⟨Int.le_refl _, rfl, rfl⟩
  | x :: l => by
    obtain ⟨h0, h1, h2⟩ := parity hc l
    rw [sum_parts, kS_cons]
    show _ ∧ (c x * kS c l + tS c l) % 2 = _ ∧ _
    rcases hc x with e | e <;> rw [e]
    · rw [Int.zero_mul, Int.zero_mul]
      generalize kS c l = k at *
      generalize tS c l = t at *
      generalize sumP (prodL c) (partsL l) = s at *
      omega
    · rw [Int.one_mul, Int.one_mul]
      generalize kS c l = k at *
      generalize tS c l = t at *
      generalize sumP (prodL c) (partsL l) = s at *
      clear hc e
      obtain ⟨m, hm⟩ : ∃ m, m = k / 2 := ⟨_, rfl⟩
      rcases (show k = 2 * m ∨ k = 2 * m + 1 by omega) with e | e
      · have e2 : (1 + k) / 2 = m := by omega
        rw [← hm] at h1
        rw [e2]
        refine ⟨by omega, by omega, by omega⟩
      · have e2 : (1 + k) / 2 = m + 1 := by omega
        rw [← hm] at h1
        rw [e2]
        refine ⟨by omega, by omega, by omega⟩
/-! ### one in a setting -/
def oneS (S : List Int) (x : Int) : Int := if x ∈ S then 1 else 0
theorem prod_one (S : List Int) : ∀ p : List Int, prodL (oneS S) p = if (p.filter fun b => decide (b ∈ S)).length = p.length then 1 else 0
  | [] => rfl
  | x :: p => by
    show oneS S x * prodL (oneS S) p = _
    rw [prod_one S p]
    unfold oneS
    by_cases h : x ∈ S
    · rw [if_pos h, List.filter_cons_of_pos (by simpa using h), List.length_cons, List.length_cons, Int.one_mul]
      by_cases g : (p.filter fun b => decide (b ∈ S)).length = p.length
      · rw [if_pos g, if_pos (by omega)]
      · rw [if_neg g, if_neg (by omega)]
    · rw [if_neg h, List.filter_cons_of_neg (by simpa using h), Int.zero_mul, List.length_cons]
      have := List.length_filter_le (fun b => decide (b ∈ S)) p
      rw [if_neg (by omega)]
theorem mem_bsI {z : Int} (h : BOk z) {b : Int} (hb : 0 ≤ b) : b ∈ bsI z ↔ bitI z b = true := by
  obtain ⟨ez, bz⟩ := e2_bits h
  obtain ⟨n, rfl⟩ := Int.eq_ofNat_of_zero_le hb
  have lt2 : z.toNat < 2 ^ 2000 := Nat.lt_of_lt_of_le bz (Nat.pow_le_pow_right (by decide) (by decide))
  have e1 : bitI z n = z.toNat.testBit n := by
    have := bitI_N z.toNat n
    rw [← ez] at this
    exact this
  rw [e1, ← bsN_mem lt2]
  unfold bsI
  rw [List.mem_map]
  constructor
  · rintro ⟨m, hm, e⟩
    have : m = n := by omega
    exact this ▸ hm
  · intro h
    exact ⟨n, h, rfl⟩
end
section
/-! ### a bit summed away -/
/-! the mathematics -/
def rst (b : Int) (p : Int × Int) : Int := p.1 - 2 ^ b.toNat
def cont (b k : Int) (p : Int × Int) : Int := if (if bitI p.1 b = true then rst b p else p.1) = k then p.2 else 0
def xl (b : Int) (L : List (Int × Int)) : Int := (L.filter fun p => decide (p.2 % 4 = 2)).foldl (fun a p => Builtin.bitXor a (rst b p)) 0
def gon (s : Sum6) (b : Int) : List (Int × Int) := s.ps.filter fun p => bitI p.1 b
def totS (s : Sum6) (b : Int) : Int := ((gon s b).map (·.2)).sum
def G0 (s : Sum6) (b k : Int) : Int := ((s.ps.map (cont b k)).sum) % 8
/-- what the sum with the bit summed away is -/
structure Gone (s : Sum6) (b : Int) (r : Sum6) : Prop where
  w : r.w = s.w
  l : r.l = s.l
  hh : r.h = s.h - (if totS s b % 4 = 0 then 2 else 1)
  t : r.t = (if totS s b % 4 = 0 then s.t else if xl b (gon s b) % 2 = 1 then ((s.t + (if totS s b % 8 = 6 then 7 else 1)) % 8 + (if totS s b % 8 = 6 then -14 else -2)) % 8 else (s.t + (if totS s b % 8 = 6 then 7 else 1)) % 8)
  c : Canon r.ps
  f : ∀ k, 0 < k → vz r.ps k = if totS s b % 4 = 0 then G0 s b k else if k = evb (xl b (gon s b)) then (G0 s b k + sgb (xl b (gon s b)) (if totS s b % 8 = 6 then -14 else -2)) % 8 else G0 s b k
  ts : r.ts.Pairwise (· < ·)
  tm : ∀ x, x ∈ r.ts ↔ if totS s b % 4 = 0 then (x ∈ s.ts ∨ x = (if totS s b % 8 = 4 then Builtin.bitXor (xl b (gon s b)) 1 else xl b (gon s b))) ∧ 0 < x else x ∈ s.ts
  hs : r.hs = s.hs.filter fun x => !decide (x = b)
  sz : r.ps.length ≤ s.ps.length + 2 ∧ r.ts.length ≤ s.ts.length + 1
theorem Gone.uniq {s : Sum6} {b : Int} {r q : Sum6} (h : Gone s b r) (g : Gone s b q) : r = q := by
  obtain ⟨w, l, hh, t, ps, ts, hs⟩ := r
  obtain ⟨w2, l2, hh2, t2, ps2, ts2, hs2⟩ := q
  have e1 : w = w2 := h.w.trans g.w.symm
  have e2 : l = l2 := h.l.trans g.l.symm
  have e3 : hh = hh2 := h.hh.trans g.hh.symm
  have e4 : t = t2 := h.t.trans g.t.symm
  have e5 : ps = ps2 := h.c.uniq g.c fun k => by
    by_cases hk : 0 < k
    · exact (h.f k hk).trans (g.f k hk).symm
    · have z : ∀ {qs : List (Int × Int)}, Canon qs → vz qs k = 0 := fun {qs} c => by
        by_cases e : vz qs k = 0
        · exact e
        · exact absurd (c.sup e).1 hk
      exact (z h.c).trans (z g.c).symm
  have e6 : ts = ts2 := sorted_uniq h.ts g.ts fun x => (h.tm x).trans (g.tm x).symm
  have e7 : hs = hs2 := h.hs.trans g.hs.symm
  rw [e1, e2, e3, e4, e5, e6, e7]
/-! the walks -/
theorem ev_dj {Φ : Nat → List PyData → R PyData} {ρ : PEnv} {a b : E} {x y : Bool} (h1 : evE Φ a ρ = .ok (.bool x)) (h2 : evE Φ b ρ = .ok (.bool y)) : evE Φ (.disj a b) ρ = .ok (.bool (x || y)) := by
  rw [e_disj, h1]
  cases x with
  | true => rfl
  | false => exact h2
end
section
/-! ### whether a set has an odd number of a setting's ones -/
def pcF : Nat → Nat → Nat
  | 0, _ => 0
  | f + 1, n => n % 2 + pcF f (n / 2)
theorem pcF_s (f n : Nat) : pcF (f + 1) n = n % 2 + pcF f (n / 2) := rfl
theorem pcF_0 : ∀ f, pcF f 0 = 0
  | 0 => rfl
  | f + 1 => by rw [pcF_s, Nat.zero_div, pcF_0 f]
theorem and_half (a b : Nat) : (a &&& b) / 2 = a / 2 &&& b / 2 := Nat.and_div_two
theorem xor_half (a b : Nat) : (a ^^^ b) / 2 = a / 2 ^^^ b / 2 := Nat.xor_div_two
theorem pcF_clear : ∀ f n, 0 < n → n < 2 ^ f → pcF f (n &&& (n - 1)) + 1 = pcF f n
  | 0, n, h0, h => by rw [Nat.pow_zero] at h; omega
  | f + 1, n, h0, h => by
    rw [pcF_s, pcF_s, and_half]
    have e := Nat.and_mod_two_pow (n := 1) (a := n) (b := n - 1)
    rw [Nat.pow_one] at e
    rcases Nat.mod_two_eq_zero_or_one n with z | z
    · have h2 : (n - 1) / 2 = n / 2 - 1 := by omega
      have ih := pcF_clear f (n / 2) (by omega) (by rw [Nat.pow_succ] at h; omega)
      rw [h2, e, z, Nat.zero_and]
      omega
    · have h2 : (n - 1) / 2 = n / 2 := by omega
      have h3 : (n - 1) % 2 = 0 := by omega
      rw [h2, e, z, h3, Nat.and_self, Nat.and_zero]
      omega
theorem pcF_xor : ∀ f a b, pcF f (a ^^^ b) % 2 = (pcF f a + pcF f b) % 2
  | 0, _, _ => rfl
  | f + 1, a, b => by
    rw [pcF_s, pcF_s, pcF_s, xor_half]
    have ih := pcF_xor f (a / 2) (b / 2)
    have e : (a ^^^ b) % 2 = (a + b) % 2 := by
      have e := Nat.xor_mod_two_pow (n := 1) (a := a) (b := b)
      rw [Nat.pow_one] at e
      rw [e]
      rcases Nat.mod_two_eq_zero_or_one a with x | x <;> rcases Nat.mod_two_eq_zero_or_one b with y | y <;> rw [x, y]
      · show 0 = _; omega
      · show 1 = _; omega
      · show 1 = _; omega
      · show 0 = _; omega
    omega
@[irreducible] def Big : Nat := 2 ^ 1000
theorem big_def : Big = 2 ^ 1000 := by unfold Big; rfl
@[irreducible] def pc (n : Nat) : Nat := pcF 1000 n
theorem pc_def (n : Nat) : pc n = pcF 1000 n := by unfold pc; rfl
theorem pc_0 : pc 0 = 0 := by rw [pc_def]; exact pcF_0 1000
theorem pc_clear {n : Nat} (h : 0 < n) (hb : n < Big) : pc (n &&& (n - 1)) + 1 = pc n := by
  rw [pc_def, pc_def]
  exact pcF_clear 1000 n h (Nat.lt_of_lt_of_eq hb big_def)
theorem pc_xor (a b : Nat) : pc (a ^^^ b) % 2 = (pc a + pc b) % 2 := by
  rw [pc_def, pc_def, pc_def]
  exact pcF_xor 1000 a b
theorem pcF_low {n m : Nat} : ∀ f, n % 2 = 1 → m % 2 = 1 → pcF (f + 1) (n &&& m) = pcF (f + 1) ((n - 1) &&& m) + 1 := fun f h1 h2 => by
  rw [pcF_s, pcF_s, and_half, and_half, show (n - 1) / 2 = n / 2 by omega]
  have e := Nat.and_mod_two_pow (n := 1) (a := n) (b := m)
  have e2 := Nat.and_mod_two_pow (n := 1) (a := n - 1) (b := m)
  rw [Nat.pow_one] at e e2
  rw [h1, h2] at e
  rw [show (n - 1) % 2 = 0 by omega, Nat.zero_and] at e2
  rw [e, e2]
  have : (1 &&& 1 : Nat) = 1 := rfl
  omega
theorem pc_low {n m : Nat} (h1 : n % 2 = 1) (h2 : m % 2 = 1) : pc (n &&& m) = pc ((n - 1) &&& m) + 1 := by
  rw [pc_def, pc_def]
  exact pcF_low 999 h1 h2
/-- 1 where an odd number of the bits of both is set -/
@[irreducible] def odv (a b : Int) : Int := ((pc (a.toNat &&& b.toNat) % 2 : Nat) : Int)
theorem odv_def (a b : Int) : odv a b = ((pc (a.toNat &&& b.toNat) % 2 : Nat) : Int) := by unfold odv; rfl
theorem odv_rng (a b : Int) : 0 ≤ odv a b ∧ odv a b ≤ 1 := by rw [odv_def]; omega
theorem xor_andv (a b c : Nat) : (a ^^^ b) &&& c = (a &&& c) ^^^ (b &&& c) := Nat.and_xor_distrib_right
theorem odv_xor {a b : Int} (ha : 0 ≤ a) (hb : 0 ≤ b) (c : Int) : odv (Builtin.bitXor a b) c = (odv a c + odv b c) % 2 := by
  obtain ⟨n, rfl⟩ := Int.eq_ofNat_of_zero_le ha
  obtain ⟨m, rfl⟩ := Int.eq_ofNat_of_zero_le hb
  rw [bxor_n, odv_def, odv_def, odv_def, Int.toNat_natCast, Int.toNat_natCast, Int.toNat_natCast, xor_andv]
  have := pc_xor (n &&& c.toNat) (m &&& c.toNat)
  omega
/-- a set with bit 0, without it -/
theorem odv_low {b c : Int} (hb : 0 ≤ b) (h : b % 2 = 1) (hc : 0 ≤ c) (h1 : c % 2 = 1) : odv b c = 1 - odv (b - 1) c := by
  obtain ⟨n, rfl⟩ := Int.eq_ofNat_of_zero_le hb
  obtain ⟨m, rfl⟩ := Int.eq_ofNat_of_zero_le hc
  rw [odv_def, odv_def, Int.toNat_natCast, show ((n : Int) - 1).toNat = n - 1 by omega, Int.toNat_natCast]
  have := pc_low (n := n) (m := m) (by omega) (by omega)
  omega
/-! ### the weight of turns -/
def sW (w : Int → Int) (l : List (Int × Int)) : Int := (l.map fun p => p.2 * w p.1).sum
theorem keys_of (L : List Int) : ∃ K : List Int, K.Nodup ∧ ∀ x, x ∈ L → x ∈ K := by
  induction L with
  | nil => exact ⟨[], List.nodup_nil, fun x h => by cases h⟩
  | cons a L ih =>
    obtain ⟨K, hn, hk⟩ := ih
    by_cases h : a ∈ K
    · exact ⟨K, hn, fun x hx => (List.mem_cons.mp hx).elim (fun e => e ▸ h) (hk x)⟩
    · exact ⟨a :: K, List.nodup_cons.mpr ⟨h, hn⟩, fun x hx => (List.mem_cons.mp hx).elim (fun e => e ▸ List.mem_cons_self) fun y => List.mem_cons_of_mem _ (hk x y)⟩
theorem sum_put (K : List Int) (g : Int → Int) (a c : Int) (hn : K.Nodup) : (K.map fun k => if a = k then c else g k).sum = (K.map g).sum + if a ∈ K then c - g a else 0 := by
  induction K with
  | nil => rfl
  | cons x K ih =>
    have h := List.nodup_cons.mp hn
    rw [List.map_cons, List.sum_cons, List.map_cons, List.sum_cons, ih h.2]
    by_cases e : a = x
    · subst e
      rw [if_pos rfl, if_neg h.1, if_pos List.mem_cons_self]; omega
    · rw [if_neg e]
      by_cases m : a ∈ K
      · rw [if_pos m, if_pos (List.mem_cons_of_mem _ m)]; omega
      · rw [if_neg m, if_neg (fun z => (List.mem_cons.mp z).elim e m)]; omega
theorem sW_keys (w : Int → Int) (K : List Int) (hK : K.Nodup) : ∀ l : List (Int × Int), (l.map (·.1)).Nodup → (∀ p, p ∈ l → p.1 ∈ K) → sW w l = (K.map fun k => vz l k * w k).sum
  | [], _, _ => by
    have : (fun k => vz [] k * w k) = fun _ => (0 : Int) := funext fun k => Int.zero_mul _
    rw [this]
    rename_i hm
    clear hK this hm
    induction K with
    | nil => rfl
    | cons x K ih => rw [List.map_cons, List.sum_cons, ← ih]; rfl
  | p :: l, hn, hm => by
    have h := List.nodup_cons.mp hn
    have ih := sW_keys w K hK l h.2 fun q hq => hm q (List.mem_cons_of_mem _ hq)
    have e : (fun k => vz (p :: l) k * w k) = fun k => if p.1 = k then p.2 * w p.1 else vz l k * w k := funext fun k => by
      rw [vz_cons]
      by_cases h : p.1 = k
      · rw [if_pos h, if_pos h, h]
      · rw [if_neg h, if_neg h]
    rw [e, sum_put K _ p.1 _ hK, if_pos (hm p List.mem_cons_self), ← ih, vz_no h.1]
    show p.2 * w p.1 + sW w l = _
    omega
/-- what is put in by and by, by eights -/
theorem fold_keys (w : Int → Int) (K : List Int) (hK : K.Nodup) (key val : Int × Int → Int) : ∀ (ps : List (Int × Int)) (f : Int → Int), (∀ p, p ∈ ps → w (key p) ≠ 0 → key p ∈ K) →
    ((K.map fun k => (ps.foldl (fun x p => if k = key p then (x + val p) % 8 else x) (f k)) * w k).sum - (K.map fun k => f k * w k).sum - (ps.map fun p => val p * w (key p)).sum) % 8 = 0
  | [], f, _ => by
    show ((K.map fun k => f k * w k).sum - (K.map fun k => f k * w k).sum - 0) % 8 = 0
    omega
  | p :: ps, f, hm => by
    have ih := fold_keys w K hK key val ps (fun k => if k = key p then (f k + val p) % 8 else f k) fun q hq => hm q (List.mem_cons_of_mem _ hq)
    have e : (fun k => (if k = key p then (f k + val p) % 8 else f k) * w k) = fun k => if key p = k then (f (key p) + val p) % 8 * w (key p) else f k * w k := funext fun k => by
      by_cases h : k = key p
      · rw [if_pos h, if_pos h.symm, h]
      · rw [if_neg h, if_neg fun z => h z.symm]
    rw [e, sum_put K _ (key p) _ hK] at ih
    rw [List.map_cons, List.sum_cons]
    show ((K.map fun k => (ps.foldl (fun x p => if k = key p then (x + val p) % 8 else x) (if k = key p then (f k + val p) % 8 else f k)) * w k).sum - (K.map fun k => f k * w k).sum - (val p * w (key p) + (ps.map fun p => val p * w (key p)).sum)) % 8 = 0
    by_cases h : key p ∈ K
    · rw [if_pos h] at ih
      have m8 : (f (key p) + val p) % 8 = f (key p) + val p - 8 * ((f (key p) + val p) / 8) := by omega
      rw [m8, Int.sub_mul, Int.add_mul, Int.mul_assoc] at ih
      omega
    · have w0 : w (key p) = 0 := Classical.byContradiction fun z => h (hm p List.mem_cons_self z)
      rw [if_neg h] at ih
      rw [w0, Int.mul_zero]
      omega
/-- the weight of what came of it, by eights -/
theorem sW_fold {w : Int → Int} {key val : Int × Int → Int} {ps rs : List (Int × Int)} {f : List (Int × Int)} (hr : Canon rs) (hf : Canon f) (w0 : ∀ k, k ≤ 0 → w k = 0) (h : ∀ k, 0 < k → vz rs k = ps.foldl (fun x p => if k = key p then (x + val p) % 8 else x) (vz f k)) : (sW w rs - sW w f - (ps.map fun p => val p * w (key p)).sum) % 8 = 0 := by
  obtain ⟨K, hK, hm⟩ := keys_of (rs.map (·.1) ++ (f.map (·.1) ++ ps.map key))
  have a1 := sW_keys w K hK rs hr.nd fun p hp => hm _ (List.mem_append_left _ (List.mem_map_of_mem hp))
  have a2 := sW_keys w K hK f hf.nd fun p hp => hm _ (List.mem_append_right _ (List.mem_append_left _ (List.mem_map_of_mem hp)))
  have a3 := fold_keys w K hK key val ps (fun k => vz f k) fun p hp _ => hm _ (List.mem_append_right _ (List.mem_append_right _ (List.mem_map_of_mem hp)))
  have e : (fun k => vz rs k * w k) = fun k => (ps.foldl (fun x p => if k = key p then (x + val p) % 8 else x) (vz f k)) * w k := funext fun k => by
    by_cases hk : 0 < k
    · rw [h k hk]
    · rw [w0 k (by omega), Int.mul_zero, Int.mul_zero]
  rw [a1, a2, e]
  exact a3
end
section
/-! ### ties that ask the same -/
def vN (t B : Nat) : Nat := pc (t &&& B) % 2
theorem vN_xor (a b B : Nat) : vN (a ^^^ b) B = (vN a B + vN b B) % 2 := by
  unfold vN
  rw [xor_andv, pc_xor]; omega
theorem vN_0 (B : Nat) : vN 0 B = 0 := by unfold vN; rw [Nat.zero_and, pc_0]
theorem vN_lt (t B : Nat) : vN t B < 2 := Nat.mod_lt _ (by decide)
def wlN (b t : Nat) : Nat := if b.testBit (Nat.log2 t) = true then b ^^^ t else b
theorem log_bit {t : Nat} (h : 0 < t) : t.testBit (Nat.log2 t) = true := Nat.testBit_log2 (by omega)
theorem log_top {t j : Nat} (h : Nat.log2 t < j) : t.testBit j = false := by
  by_cases z : t = 0
  · rw [z, Nat.zero_testBit]
  · exact Nat.testBit_lt_two_pow ((Nat.log2_lt z).mp h)
theorem log_of {t j : Nat} (h : t.testBit j = true) (g : ∀ i, j < i → t.testBit i = false) : Nat.log2 t = j := by
  have t0 : 0 < t := by
    cases t with
    | zero => rw [Nat.zero_testBit] at h; cases h
    | succ t => omega
  have h1 := log_bit t0
  rcases Nat.lt_trichotomy (Nat.log2 t) j with x | x | x
  · rw [log_top x] at h; cases h
  · exact x
  · rw [g _ x] at h1; cases h1
theorem wl_clear (b : Nat) {t : Nat} (h : 0 < t) : (wlN b t).testBit (Nat.log2 t) = false := by
  unfold wlN
  by_cases c : b.testBit (Nat.log2 t) = true
  · rw [if_pos c, Nat.testBit_xor, c, log_bit h]; rfl
  · rw [if_neg c]; simpa using c
theorem wl_keep {b t j : Nat} (h : t.testBit j = false) : (wlN b t).testBit j = b.testBit j := by
  unfold wlN
  split
  · rw [Nat.testBit_xor, h, Bool.xor_false]
  · rfl
theorem wl_v {t B : Nat} (b : Nat) (h : vN t B = 0) : vN (wlN b t) B = vN b B := by
  unfold wlN
  split
  · rw [vN_xor, h]
    have := vN_lt b B
    omega
  · rfl
theorem fold_v {B : Nat} : ∀ (K : List Nat) (b : Nat), (∀ t, t ∈ K → vN t B = 0) → vN (K.foldl wlN b) B = vN b B
  | [], _, _ => rfl
  | t :: K, b, h => by
    rw [List.foldl_cons, fold_v K _ fun u hu => h u (List.mem_cons_of_mem _ hu), wl_v b (h t List.mem_cons_self)]
theorem fold_keep {j : Nat} : ∀ (K : List Nat) (b : Nat), (∀ t, t ∈ K → t.testBit j = false) → (K.foldl wlN b).testBit j = b.testBit j
  | [], _, _ => rfl
  | t :: K, b, h => by
    rw [List.foldl_cons, fold_keep K _ fun u hu => h u (List.mem_cons_of_mem _ hu), wl_keep (h t List.mem_cons_self)]
/-- the greatest bit of each in no other one -/
def Apart (a b : Nat) : Prop := b.testBit (Nat.log2 a) = false ∧ a.testBit (Nat.log2 b) = false
structure Red (K : List Nat) : Prop where
  pos : ∀ t, t ∈ K → 0 < t
  ap : K.Pairwise Apart
theorem Apart.symm {a b : Nat} (h : Apart a b) : Apart b a := ⟨h.2, h.1⟩
theorem Red.fold {K : List Nat} (h : Red K) (b : Nat) : ∀ t, t ∈ K → (K.foldl wlN b).testBit (Nat.log2 t) = false := by
  obtain ⟨h1, h2⟩ := h
  induction K generalizing b with
  | nil => intro t ht; cases ht
  | cons u K ih =>
    obtain ⟨a1, a2⟩ := List.pairwise_cons.mp h2
    intro t ht
    rw [List.foldl_cons]
    rcases List.mem_cons.mp ht with rfl | ht
    · rw [fold_keep K _ fun x hx => (a1 x hx).1]
      exact wl_clear b (h1 t List.mem_cons_self)
    · exact ih _ (fun x hx => h1 x (List.mem_cons_of_mem _ hx)) a2 t ht
/-- a tie put into the others -/
theorem wl_log {a t : Nat} (ha : 0 < a) (ht : 0 < t) (h : t.testBit (Nat.log2 a) = false) : Nat.log2 (wlN a t) = Nat.log2 a ∧ 0 < wlN a t := by
  have e : Nat.log2 (wlN a t) = Nat.log2 a := by
    refine log_of ?_ fun i hi => ?_
    · rw [wl_keep h]; exact log_bit ha
    · unfold wlN
      split
      · rename_i c
        have lt : Nat.log2 t < Nat.log2 a := by
          rcases Nat.lt_trichotomy (Nat.log2 t) (Nat.log2 a) with x | x | x
          · exact x
          · rw [← x, log_bit ht] at h; cases h
          · rw [log_top x] at c; cases c
        rw [Nat.testBit_xor, log_top hi, log_top (Nat.lt_trans lt hi)]; rfl
      · exact log_top hi
  refine ⟨e, ?_⟩
  have : (wlN a t).testBit (Nat.log2 a) = true := by rw [wl_keep h]; exact log_bit ha
  rcases Nat.eq_zero_or_pos (wlN a t) with z | z
  · rw [z, Nat.zero_testBit] at this; cases this
  · exact z
theorem Red.put {K : List Nat} (h : Red K) {t : Nat} (ht : 0 < t) (hk : ∀ u, u ∈ K → t.testBit (Nat.log2 u) = false) : Red (K.map (wlN · t) ++ [t]) := by
  obtain ⟨h1, h2⟩ := h
  have lg : ∀ u, u ∈ K → Nat.log2 (wlN u t) = Nat.log2 u ∧ 0 < wlN u t := fun u hu => wl_log (h1 u hu) ht (hk u hu)
  refine ⟨fun u hu => ?_, List.pairwise_append.mpr ⟨List.pairwise_map.mpr (h2.imp_of_mem fun {a b} ha hb z => ?_), List.pairwise_singleton _ _, fun a ha b hb => ?_⟩⟩
  · rcases List.mem_append.mp hu with hu | hu
    · obtain ⟨a, ha, rfl⟩ := List.mem_map.mp hu
      exact (lg a ha).2
    · rw [List.mem_singleton.mp hu]; exact ht
  · refine ⟨?_, ?_⟩
    · rw [(lg a ha).1, wl_keep (hk a ha)]; exact z.1
    · rw [(lg b hb).1, wl_keep (hk b hb)]; exact z.2
  · rw [List.mem_singleton.mp hb]
    obtain ⟨c, hc, rfl⟩ := List.mem_map.mp ha
    refine ⟨?_, wl_clear c ht⟩
    rw [(lg c hc).1]
    exact hk c hc
def redN : List Nat → List Nat → List Nat
  | K, [] => K
  | K, t :: ts => if 0 < K.foldl wlN t then redN (K.map (wlN · (K.foldl wlN t)) ++ [K.foldl wlN t]) ts else redN K ts
def Zero (B : Nat) (K : List Nat) : Prop := ∀ t, t ∈ K → vN t B = 0
theorem zero_put {B : Nat} {K : List Nat} {t : Nat} : Zero B (K.map (wlN · (K.foldl wlN t)) ++ [K.foldl wlN t]) ↔ Zero B K ∧ vN t B = 0 := by
  constructor
  · intro h
    have h1 : vN (K.foldl wlN t) B = 0 := h _ (List.mem_append_right _ (List.mem_singleton.mpr rfl))
    have h2 : Zero B K := fun u hu => by
      have := h _ (List.mem_append_left _ (List.mem_map.mpr ⟨u, hu, rfl⟩))
      rw [wl_v u h1] at this
      exact this
    rw [fold_v K t h2] at h1
    exact ⟨h2, h1⟩
  · rintro ⟨h1, h2⟩ u hu
    have e := fold_v K t h1
    rcases List.mem_append.mp hu with hu | hu
    · obtain ⟨a, ha, rfl⟩ := List.mem_map.mp hu
      rw [wl_v a (by rw [e]; exact h2)]
      exact h1 a ha
    · rw [List.mem_singleton.mp hu, e]; exact h2
theorem redN_ok : ∀ (ts K : List Nat), Red K → Red (redN K ts) ∧ ∀ B, Zero B (redN K ts) ↔ Zero B K ∧ Zero B ts
  | [], K, h => ⟨h, fun B => ⟨fun z => ⟨z, fun t ht => by cases ht⟩, fun z => z.1⟩⟩
  | t :: ts, K, h => by
    unfold redN
    have cons : ∀ B, Zero B (t :: ts) ↔ vN t B = 0 ∧ Zero B ts := fun B => ⟨fun z => ⟨z t List.mem_cons_self, fun u hu => z u (List.mem_cons_of_mem _ hu)⟩, fun z u hu => by
      rcases List.mem_cons.mp hu with rfl | hu
      · exact z.1
      · exact z.2 u hu⟩
    by_cases c : 0 < K.foldl wlN t
    · rw [if_pos c]
      obtain ⟨r1, r2⟩ := redN_ok ts _ (h.put c (h.fold t))
      refine ⟨r1, fun B => ?_⟩
      rw [r2 B, zero_put, cons]
      exact and_assoc
    · rw [if_neg c]
      obtain ⟨r1, r2⟩ := redN_ok ts K h
      refine ⟨r1, fun B => ?_⟩
      rw [r2 B, cons]
      refine ⟨fun ⟨a, b⟩ => ⟨a, ?_, b⟩, fun ⟨a, _, b⟩ => ⟨a, b⟩⟩
      have e := fold_v K t a
      rw [show K.foldl wlN t = 0 by omega, vN_0] at e
      exact e.symm
theorem wl_lt {m a t : Nat} (ha : a < 2 ^ m) (ht : t < 2 ^ m) : wlN a t < 2 ^ m := by
  unfold wlN
  split
  · exact Nat.xor_lt_two_pow ha ht
  · exact ha
theorem fold_lt {m : Nat} : ∀ (K : List Nat) (b : Nat), b < 2 ^ m → (∀ t, t ∈ K → t < 2 ^ m) → K.foldl wlN b < 2 ^ m
  | [], _, h, _ => h
  | t :: K, b, h, g => fold_lt K _ (wl_lt h (g t List.mem_cons_self)) fun u hu => g u (List.mem_cons_of_mem _ hu)
theorem redN_lt {m : Nat} : ∀ (ts K : List Nat), (∀ t, t ∈ ts → t < 2 ^ m) → (∀ t, t ∈ K → t < 2 ^ m) → ∀ t, t ∈ redN K ts → t < 2 ^ m
  | [], _, _, h => h
  | t :: ts, K, h1, h2 => by
    unfold redN
    have lt := fold_lt K t (h1 t List.mem_cons_self) h2
    split
    · refine redN_lt ts _ (fun u hu => h1 u (List.mem_cons_of_mem _ hu)) fun u hu => ?_
      rcases List.mem_append.mp hu with hu | hu
      · obtain ⟨a, ha, rfl⟩ := List.mem_map.mp hu
        exact wl_lt (h2 a ha) lt
      · rw [List.mem_singleton.mp hu]; exact lt
    · exact redN_lt ts K (fun u hu => h1 u (List.mem_cons_of_mem _ hu)) h2
theorem redN_len : ∀ (ts K : List Nat), (redN K ts).length ≤ K.length + ts.length
  | [], K => Nat.le_refl _
  | t :: ts, K => by
    unfold redN
    split
    · have := redN_len ts (K.map (wlN · (K.foldl wlN t)) ++ [K.foldl wlN t])
      rw [List.length_append, List.length_map, List.length_singleton] at this
      rw [List.length_cons]; omega
    · have := redN_len ts K
      rw [List.length_cons]; omega
/-! ### a setting that all ties let stand -/
theorem pc_bits {n : Nat} (h : n < 2 ^ 1000) : pc n = (bsN n).length := by
  have key : ∀ (f n : Nat), ((List.range f).filter fun b => n.testBit b).length = pcF f n := fun f => by
    induction f with
    | zero => intro n; rfl
    | succ f ih =>
      intro n
      rw [List.range_succ_eq_map, List.filter_cons, pcF_s, ← ih (n / 2), List.filter_map]
      have e : ((fun b => n.testBit b) ∘ Nat.succ) = fun b => (n / 2).testBit b := by
        funext b
        show n.testBit (b + 1) = _
        rw [Nat.testBit_succ]
      rw [e]
      have z : n.testBit 0 = decide (n % 2 = 1) := Nat.testBit_zero n
      rw [z]
      rcases Nat.mod_two_eq_zero_or_one n with m | m <;> rw [m]
      · simp
      · simp; omega
  rw [bs_cut (l := 1000) (by decide) h, key, pc_def]
theorem vN_comm (a b : Nat) : vN a b = vN b a := by unfold vN; rw [Nat.and_comm]
theorem vN_bit {t j : Nat} (hj : j < 1000) : vN t (2 ^ j) = if t.testBit j = true then 1 else 0 := by
  have hb : 2 ^ j < Big := by rw [big_def]; exact Nat.pow_lt_pow_right (by decide) hj
  have p1 : pc (2 ^ j) = 1 := by
    have := pc_clear (n := 2 ^ j) (Nat.two_pow_pos j) hb
    rw [show 2 ^ j &&& (2 ^ j - 1) = 0 by rw [Nat.and_two_pow_sub_one_eq_mod, Nat.mod_self], pc_0] at this
    exact this.symm
  unfold vN
  by_cases c : t.testBit j = true
  · rw [if_pos c]
    have : t &&& 2 ^ j = 2 ^ j := by
      apply Nat.eq_of_testBit_eq
      intro i
      rw [Nat.testBit_and, Nat.testBit_two_pow]
      by_cases e : j = i
      · subst e; rw [c]; rfl
      · rw [decide_eq_false e, Bool.and_false]
    rw [this, p1]
  · rw [if_neg c]
    have : t &&& 2 ^ j = 0 := by
      apply Nat.eq_of_testBit_eq
      intro i
      rw [Nat.testBit_and, Nat.testBit_two_pow, Nat.zero_testBit]
      by_cases e : j = i
      · subst e; rw [show t.testBit j = false by simpa using c]; rfl
      · rw [decide_eq_false e, Bool.and_false]
    rw [this, pc_0]
theorem one_no {B : Nat} (h : B % 2 = 1) : vN 1 B = 1 := by
  have := vN_bit (t := B) (j := 0) (by decide)
  rw [Nat.pow_zero, Nat.testBit_zero, h] at this
  rw [vN_comm, this]; rfl
/-! ### a form at a setting -/
def oneB (B : Nat) (x : Int) : Int := if bitI (B : Int) x = true then 1 else 0
theorem oneB_01 (B : Nat) (x : Int) : oneB B x = 0 ∨ oneB B x = 1 := by
  unfold oneB
  split
  · exact .inr rfl
  · exact .inl rfl
theorem kS_bits {z : Nat} (B : Nat) (hz : z < 2 ^ 1000) : kS (oneB B) (bsI (z : Int)) % 2 = (vN z B : Nat) := by
  have lt : z &&& B < 2 ^ 1000 := Nat.lt_of_le_of_lt Nat.and_le_left hz
  have e : kS (oneB B) (bsI (z : Int)) = ((bsN z).filter fun b => B.testBit b).length := by
    unfold bsI
    rw [Int.toNat_natCast]
    induction bsN z with
    | nil => rfl
    | cons b l ih =>
      rw [List.map_cons, kS_cons, ih, List.filter_cons]
      unfold oneB
      rw [bitI_N]
      split
      · rw [List.length_cons]; omega
      · omega
  have e2 : (bsN z).filter (fun b => B.testBit b) = bsN (z &&& B) := by
    unfold bsN
    rw [List.filter_filter]
    refine List.filter_congr fun b _ => ?_
    rw [Nat.testBit_and, Bool.and_comm]
  rw [e, e2, ← pc_bits lt]
  unfold vN
  omega
theorem odv_vN (z B : Nat) : odv (z : Int) (B : Int) = (vN z B : Nat) := by
  rw [odv_def, Int.toNat_natCast, Int.toNat_natCast]; rfl
theorem tot_B {B : Nat} : ∀ ts : List (Int × Int), TOk ts → (∀ p, p ∈ ts → p.1 < 2 ^ 1000) → (totF (prodL (oneB B)) ts - sW (odv · B) ts) % 8 = 0
  | [], _, _ => rfl
  | p :: ts, h, g => by
    have ih := tot_B (B := B) ts (fun q hq => h q (List.mem_cons_of_mem _ hq)) fun q hq => g q (List.mem_cons_of_mem _ hq)
    obtain ⟨bo, _, _⟩ := h p List.mem_cons_self
    have lt := g p List.mem_cons_self
    obtain ⟨n, hn⟩ := Int.eq_ofNat_of_zero_le bo.z0
    have pr := (parity (oneB_01 B) (bsI p.1)).2.2
    have ln : n < 2 ^ 1000 := by
      rw [hn] at lt
      have e : ((2 ^ 1000 : Nat) : Int) = 2 ^ 1000 := by simp
      rw [← e] at lt
      exact Int.ofNat_lt.mp lt
    have ec : kS (oneB B) (bsI p.1) % 2 = odv p.1 B := by rw [hn, kS_bits B ln, odv_vN]
    rw [ec] at pr
    unfold totF sW at ih ⊢
    rw [List.map_cons, List.sum_cons, List.map_cons, List.sum_cons]
    have e8 : p.2 * sumP (prodL (oneB B)) (partsL (bsI p.1)) = p.2 * odv p.1 B + 8 * (p.2 * (sumP (prodL (oneB B)) (partsL (bsI p.1)) / 8)) := by
      have := Int.emod_add_mul_ediv (sumP (prodL (oneB B)) (partsL (bsI p.1))) 8
      rw [pr] at this
      generalize sumP (prodL (oneB B)) (partsL (bsI p.1)) / 8 = d at *
      rw [← this]
      grind
    rw [e8]
    generalize p.2 * (sumP (prodL (oneB B)) (partsL (bsI p.1)) / 8) = A
    generalize p.2 * odv p.1 B = C
    omega
end
section
def c_lead_of : List S := [.ret false (.bin .sub (.bitl (.var 0)) (.cst (.int 1)))]
def f_lead_of (Φ : Nat → List PyData → R PyData) : List PyData → R PyData := fn Φ 1 1 c_lead_of
def c_without_lead : List S := [.ife (.cmp .eq (.bin .band (.bin .shr (.var 0) (.call 55 false [.var 1] [])) (.cst (.int 1))) (.cst (.int 1))) [.ret false (.bin .bxor (.var 0) (.var 1))] [], .ret false (.var 0)]
def f_without_lead (Φ : Nat → List PyData → R PyData) : List PyData → R PyData := fn Φ 2 2 c_without_lead
def c_reduced : List S := [.asg (.nm 1) (.lst []), .loop (.nm 2) .seq [.var 0] [.loop (.nm 3) .seq [.var 1] [.asg (.nm 2) (.call 134 false [.var 2, .var 3] [])], .ife (.cmp .gt (.var 2) (.cst (.int 0))) [.asg (.nm 1) (.comp [3] (.nm 3) .seq [.var 1] none (.call 134 false [.var 3, .var 2] [])), .app 1 (.var 2)] []], .ret false (.bi .sorted1 [.var 1])]
def f_reduced (Φ : Nat → List PyData → R PyData) : List PyData → R PyData := fn Φ 1 4 c_reduced
def c_settled_sum : List S := [.asg (.tp [3, 4, 5, 6, 7, 8]) (.var 0), .ife (.cmp .ne (.var 8) (.tup [])) [.rs "StillHidden"] [], .asg (.nm 1) (.call 82 false [.var 7] []), .ife (.cmp .inn (.cst (.int 1)) (.var 1)) [.ret false (.cst (.none))] [], .asg (.nm 2) (.tup [.var 5, .tup []]), .loop (.tp [9, 10]) .seq [.var 6] [.loop (.nm 11) .seq [.var 1] [.asg (.nm 9) (.call 134 false [.var 9, .var 11] [])], .asg (.nm 2) (.call 1 false [.idx (.var 2) (.cst (.int 0)), .idx (.var 2) (.cst (.int 1)), .var 9, .var 10] [])], .ret false (.tup [.var 3, .var 4, .idx (.var 2) (.cst (.int 0)), .call 38 false [.idx (.var 2) (.cst (.int 1))] [], .bi .tuple1 [.var 1]])]
def f_settled_sum (Φ : Nat → List PyData → R PyData) : List PyData → R PyData := fn Φ 1 12 c_settled_sum
/-! ### the walks: ties reduced -/
theorem pow_int (n : Nat) : ((2 ^ n : Nat) : Int) = 2 ^ n := by simp
def Sp_lead (F : List PyData → R PyData) : Prop := ∀ t : Nat, 0 < t → F [.int t] = .ok (.int (Nat.log2 t))
theorem s_lead (Φ : Nat → List PyData → R PyData) : Sp_lead (f_lead_of Φ) := by
  intro t ht
  refine f_T rfl ?_
  unfold c_lead_of
  one_sign
  refine t_ret (p := .int (Nat.log2 t)) ?_ (by rfl)
  rw [e_bin]
  show ((bitlV (.int t)).bind fun x => opV .sub x (.int 1)) = _
  show R.ok (PyData.int (((Builtin.Int.intBits (t : Int) : Nat) : Int) - 1)) = _
  have : Builtin.Int.intBits (t : Int) = Nat.log2 t + 1 := by
    unfold Builtin.Int.intBits
    have h2 : ¬ t = 0 := by omega
    simp [h2]
  rw [this, show ((Nat.log2 t + 1 : Nat) : Int) - 1 = (Nat.log2 t : Int) by omega]
def Sp_wl (F : List PyData → R PyData) : Prop := ∀ b t : Nat, 0 < t → F [.int b, .int t] = .ok (.int (wlN b t : Nat))
theorem s_wl (Φ : Nat → List PyData → R PyData) (h1 : Sp_lead (Φ 55)) : Sp_wl (f_without_lead Φ) := by
  intro b t ht
  refine f_T rfl ?_
  unfold c_without_lead
  one_sign
  refine t_if (t := b.testBit (Nat.log2 t)) ?_ (fun h => ?_) (fun h => ?_)
  · have e1 : evE Φ (.call 55 false [.var 1] []) [V (.int b), V (.int t)] = .ok (.int (Nat.log2 t)) := h1 t ht
    have e2 := bit_and (t := (b : Int)) (b := ((Nat.log2 t : Nat) : Int)) (Int.natCast_nonneg _) (Int.natCast_nonneg _)
    rw [bitI_N] at e2
    rw [e_cmp, e_bin, e_bin, e1]
    exact e2
  · refine t_ret (p := .int ((b ^^^ t : Nat) : Int)) ?_ (by unfold wlN; rw [if_pos h]; rfl)
    show R.ok (PyData.int (Builtin.bitXor (b : Int) (t : Int))) = _
    rw [bxor_n]
  · exact t_ret (p := .int (b : Int)) (by rfl) (by unfold wlN; rw [if_neg (by rw [h]; decide)]; rfl)
def nI (K : List Nat) : List Int := K.map fun n : Nat => (n : Int)
theorem nI_map (K : List Nat) : (nI K).map PyData.int = K.map fun n : Nat => PyData.int n := by unfold nI; rw [List.map_map]; rfl
def slB (b : Bool) (K : List Nat) : Sl := some (b, .list ((nI K).map .int))
theorem redN_cons (K : List Nat) (t : Nat) (ts : List Nat) : redN K (t :: ts) = if 0 < K.foldl wlN t then redN (K.map (wlN · (K.foldl wlN t)) ++ [K.foldl wlN t]) ts else redN K ts := by
  rw [redN]
def Sp_reduced (F : List PyData → R PyData) : Prop := ∀ ts : List Nat, ts.length ≤ 1000 → F [.tuple ((nI ts).map .int)] = .ok (.list ((sortI (nI (redN [] ts))).map .int))
theorem s_reduced (Φ : Nat → List PyData → R PyData) (h1 : Sp_wl (Φ 134)) : Sp_reduced (f_reduced Φ) := by
  intro ts hl
  refine f_T rfl ?_
  unfold c_reduced
  one_sign
  refine t_asg_l (ps := (nI []).map .int) (ρ1 := [V (.tuple ((nI ts).map .int)), slB true [], none, none]) (by rfl) (by rfl) ?_
  refine t_forL ts (fun n : Nat => PyData.int n) (p := .tuple ((nI ts).map .int)) (ρ1 := [V (.tuple ((nI ts).map .int)), slB true [], none, none]) (I := fun i ρ => ∃ (b : Bool) (K : List Nat) (s2 : Sl) (s3 : Option PyData), ρ = [V (.tuple ((nI ts).map .int)), slB b K, s2, slD s3] ∧ redN K (ts.drop i) = redN [] ts ∧ K.length ≤ i ∧ Red K) (K := fun _ => False) (by rfl) (.inl (by rw [nI_map])) (by rfl) ⟨true, [], none, none, rfl, by rw [List.drop_zero], Nat.le_refl _, ⟨(fun t ht => by cases ht), List.Pairwise.nil⟩⟩ ?_ (fun _ h => h.elim) ?_
  · rintro i t ρ hi ⟨b, K, s2, s3, rfl, inv, kl, rd⟩
    have ilt := len_take1 hi
    simp only [List.set_cons_zero, List.set_cons_succ]
    rw [List.drop_eq_getElem?_toList_append, hi] at inv
    have inv : redN K (t :: ts.drop (i + 1)) = redN [] ts := inv
    rw [redN_cons] at inv
    generalize hQ : (Lp _ _ _ : R Fl → Prop) = QQ
    refine t_forL K (fun n : Nat => PyData.int n) (p := .list ((nI K).map .int)) (ρ1 := [V (.tuple ((nI ts).map .int)), slB false K, V (.int t), slD s3]) (I := fun j ρ => ∃ s3 : Option PyData, ρ = [V (.tuple ((nI ts).map .int)), slB false K, V (.int ((K.take j).foldl wlN t : Nat)), slD s3]) (K := fun _ => False) (by rfl) (.inr (by rw [nI_map])) (by rfl) ⟨s3, rfl⟩ ?_ (fun _ h => h.elim) ?_
    · rintro j u ρ hj ⟨s3, rfl⟩
      simp only [List.set_cons_zero, List.set_cons_succ]
      have up := rd.pos u (List.mem_of_getElem? hj)
      refine t_asg_n (p := .int ((K.take (j + 1)).foldl wlN t : Nat)) (ρ1 := [V (.tuple ((nI ts).map .int)), slB false K, V (.int ((K.take (j + 1)).foldl wlN t : Nat)), V (.int u)]) ?_ rfl (by rfl) (t_nil ⟨some (.int u), rfl⟩)
      rw [List.take_add_one, hj, List.foldl_append]
      exact h1 _ u up
    · rintro ρ' ⟨s3, rfl⟩
      rw [← hQ, List.take_length]
      generalize ht : K.foldl wlN t = t' at inv
      refine t_if (t := decide (0 < (t' : Int))) (by rw [e_cmp]; exact cm_gt) (fun h => ?_) (fun h => ?_)
      · have h0 : 0 < t' := by have := of_decide_eq_true h; omega
        rw [if_pos h0] at inv
        have cp : evE Φ (.comp [3] (.nm 3) .seq [.var 1] none (.call 134 false [.var 3, .var 2] [])) [V (.tuple ((nI ts).map .int)), slB false K, V (.int (t' : Nat)), slD s3] = .ok (.list ((nI (K.map (wlN · t'))).map .int)) := by
          refine (ev_compL (Φ := Φ) (own := [3]) (v := 3) (e := .var 1) (elt := (.call 134 false [.var 3, .var 2] [])) (ρ := [V (.tuple ((nI ts).map .int)), slB false K, V (.int (t' : Nat)), slD s3]) K (fun n : Nat => PyData.int n) (p := .list ((nI K).map .int)) (ρ1 := [V (.tuple ((nI ts).map .int)), slB false K, V (.int (t' : Nat)), none]) (g := fun u => PyData.int (wlN u t' : Nat)) (by rfl) (.inr (by rw [nI_map])) (by cases s3 <;> rfl) (by omega) (by rfl) (fun u _ => h1 u t' h0)).trans ?_
          rw [nI_map, List.map_map]; rfl
        refine t_asg_l (ps := (nI (K.map (wlN · t'))).map .int) (ρ1 := [V (.tuple ((nI ts).map .int)), slB true (K.map (wlN · t')), V (.int (t' : Nat)), slD s3]) cp (by cases s3 <;> rfl) ?_
        refine t_app (p := .int (t' : Nat)) (xs := (nI (K.map (wlN · t'))).map .int) (ρ1 := [V (.tuple ((nI ts).map .int)), slB true (K.map (wlN · t') ++ [t']), V (.int (t' : Nat)), slD s3]) (by rfl) (by rfl) (by rw [nI_map, List.length_map, List.length_map]; omega) (by rfl) (by unfold slB nI; rw [List.map_append, List.map_append]; rfl) (t_nil ⟨true, _, _, s3, rfl, inv, ?_, ?_⟩)
        · rw [List.length_append, List.length_map, List.length_singleton]; omega
        · exact rd.put h0 (by rw [← ht]; exact rd.fold t)
      · have h0 : ¬ 0 < t' := by have := of_decide_eq_false h; omega
        rw [if_neg h0] at inv
        exact t_nil ⟨false, K, _, s3, rfl, inv, by omega, rd⟩
  · rintro ρ' ⟨b, K, s2, s3, rfl, inv, kl, rd⟩
    rw [List.drop_length] at inv
    have inv : K = redN [] ts := inv
    subst inv
    refine t_ret (p := .list ((sortI (nI (redN [] ts))).map .int)) ?_ (by rfl)
    refine ev_bi1 (x := .list ((nI (redN [] ts)).map .int)) (by rfl) ?_
    show sortV ((nI (redN [] ts)).map .int) = _
    unfold sortV
    rw [intsP_int]
/-! ### a sum settled -/
theorem odv_noF {k : Int} (h : k ≤ 0) (B : Int) : odv k B = 0 := by
  rw [odv_def, show k.toNat = 0 by omega, Nat.zero_and, pc_0]; rfl
theorem step_sumF {T e b B tot : Int} {qs us : List (Int × Int)} (hq : Canon qs) (hu : Canon us) (h : ∀ k, vz us k = if k = evb b ∧ 0 < k then (vz qs k + sgb b e) % 8 else vz qs k) (hb : 0 ≤ b) (hB : 0 ≤ B) (B1 : B % 2 = 1) (inv : (T + sW (odv · B) qs - tot) % 8 = 0) : ((if b % 2 = 1 then T + e else T) % 8 + sW (odv · B) us - (tot + e * odv b B)) % 8 = 0 := by
  have w := sW_fold (w := (odv · B)) (key := fun p => evb p.1) (val := fun p => sgb p.1 p.2) (ps := [(b, e)]) hu hq (fun k hk => odv_noF hk B) fun k hk => by
    rw [h k]
    show _ = if k = evb b then _ else _
    by_cases x : k = evb b
    · rw [if_pos ⟨x, hk⟩, if_pos x]
    · rw [if_neg fun z => x z.1, if_neg x]
  have w2 : (sW (odv · B) us - sW (odv · B) qs - (sgb b e * odv (evb b) B + 0)) % 8 = 0 := w
  generalize sW (odv · B) us = U at *
  generalize sW (odv · B) qs = Q at *
  unfold sgb evb at w2
  by_cases o : b % 2 = 1
  · rw [if_pos o] at w2 ⊢
    rw [odv_low hb o hB B1, Int.mul_sub, Int.mul_one]
    rw [show b - b % 2 = b - 1 by omega, Int.neg_mul] at w2
    omega
  · rw [if_neg o] at w2 ⊢
    rw [show b - b % 2 = b by omega] at w2
    omega
theorem take_sWF (w : Int → Int) {l : List (Int × Int)} {i : Nat} {p : Int × Int} (h : l[i]? = some p) : sW w (l.take (i + 1)) = sW w (l.take i) + p.2 * w p.1 := by
  unfold sW
  rw [List.take_add_one, h, List.map_append, List.sum_append]
  show _ + ([p.2 * w p.1] : List Int).sum = _
  simp
/-- the ties, sorted -/
def kpN (ts : List Nat) : List Nat := (sortI (nI (redN [] ts))).map Int.toNat
theorem nI_kp (ts : List Nat) : nI (kpN ts) = sortI (nI (redN [] ts)) := by
  unfold nI kpN
  rw [List.map_map]
  refine (List.map_congr_left fun x hx => ?_).trans (List.map_id _)
  have := (sortI_perm _).mem_iff.mp hx
  obtain ⟨n, _, rfl⟩ := List.mem_map.mp this
  rfl
theorem kp_perm (ts : List Nat) : (kpN ts).Perm (redN [] ts) := by
  have h := (sortI_perm (nI (redN [] ts))).map Int.toNat
  unfold kpN
  refine h.trans ?_
  unfold nI
  rw [List.map_map, show (Int.toNat ∘ fun n : Nat => (n : Int)) = id from funext fun n => Int.toNat_natCast n, List.map_id]
theorem red_nil : Red [] := ⟨(fun t ht => by cases ht), List.Pairwise.nil⟩
theorem kp_red (ts : List Nat) : Red (kpN ts) := by
  have r := (redN_ok ts [] red_nil).1
  exact ⟨fun t ht => r.pos t ((kp_perm ts).mem_iff.mp ht), ((kp_perm ts).pairwise_iff fun {a b} h => h.symm).mpr r.ap⟩
theorem kp_zero (ts : List Nat) (B : Nat) : Zero B (kpN ts) ↔ Zero B ts := by
  have r := (redN_ok ts [] red_nil).2 B
  constructor
  · intro h
    exact (r.mp fun t ht => h t ((kp_perm ts).mem_iff.mpr ht)).2
  · intro h t ht
    exact r.mpr ⟨(fun t ht => by cases ht), h⟩ t ((kp_perm ts).mem_iff.mp ht)
theorem kp_lt {m : Nat} {ts : List Nat} (h : ∀ t, t ∈ ts → t < 2 ^ m) : ∀ t, t ∈ kpN ts → t < 2 ^ m := fun t ht => redN_lt ts [] h (fun t ht => by cases ht) t ((kp_perm ts).mem_iff.mp ht)
theorem kp_len (ts : List Nat) : (kpN ts).length ≤ ts.length := by
  rw [(kp_perm ts).length_eq]
  have := redN_len ts []
  rw [List.length_nil] at this
  omega
theorem Red.nd {K : List Nat} (h : Red K) : K.Nodup := h.ap.imp_of_mem fun {a b} ha hb z e => by
  have := log_bit (h.pos a ha)
  subst e
  rw [z.1] at this
  cases this
theorem kp_up (ts : List Nat) : (nI (kpN ts)).Pairwise (· < ·) := by
  rw [nI_kp]
  refine sort_lt (List.pairwise_map.mpr ((redN_ok ts [] red_nil).1.nd.imp fun h e => h (by omega)))
def eset (s : Sum6) (T : Int) (fm : List (List Int × Int)) (K : List Nat) : PyData := .tuple [.tuple [.int s.w, .int s.l], .int s.h, .int T, eform fm, .tuple ((nI K).map .int)]
structure SIn (m : Nat) (s : Sum6) (tn : List Nat) : Prop where
  hs : s.hs = []
  ts : s.ts = nI tn
  cp : Canon s.ps
  tt : 0 ≤ s.t ∧ s.t < 8
  pl : s.ps.length ≤ 200
  tl : tn.length ≤ 200
  pm : ∀ p, p ∈ s.ps → p.1 < 2 ^ m
  tm : ∀ t, t ∈ tn → t < 2 ^ m
structure Told (m : Nat) (s : Sum6) (K : List Nat) (T : Int) (fm : List (List Int × Int)) : Prop where
  f : FormOk fm
  t0 : 0 ≤ T ∧ T < 8
  bit : ∀ p, p ∈ fm → ∀ b, b ∈ p.1 → 1 ≤ b ∧ b < m
  lead : ∀ p, p ∈ fm → ∀ t, t ∈ K → ¬ ((Nat.log2 t : Nat) : Int) ∈ p.1
  val : ∀ B : Nat, B % 2 = 1 → Zero B K → (T + sQ (prodL (oneB B)) fm - (s.t + sW (odv · B) s.ps)) % 8 = 0
def Sp_settled54 (F : List PyData → R PyData) : Prop := ∀ (m : Nat) (s : Sum6) (tn : List Nat), m ≤ 20 → SIn m s tn → (1 ∈ kpN tn ∧ F [e6 s] = .ok .none) ∨ (1 ∉ kpN tn ∧ ∃ T fm, Told m s (kpN tn) T fm ∧ F [e6 s] = .ok (eset s T fm (kpN tn)))
theorem cm_inI (b : Int) (S : List Int) : cmV .inn (.int b) (.list (S.map .int)) = .ok (.bool (decide (b ∈ S))) := by
  show (inV2 (.int b) (S.map .int)).bind (fun b => okB b) = _
  unfold inV2
  have f : (flatP (.int b) && (S.map PyData.int).all flatP) = true := by
    rw [List.all_map]
    show (true && _) = true
    rw [Bool.true_and]
    exact List.all_eq_true.mpr fun _ _ => rfl
  rw [f, guard_true]
  have key : ∀ l : List Int, ((l.map PyData.int).any fun y => y.eqv (PyData.int b)) = decide (b ∈ l) := fun l => by
    induction l with
    | nil => rfl
    | cons k l ih =>
      rw [List.map_cons, List.any_cons, ih]
      have : PyData.eqv (.int k) (.int b) = decide (k = b) := ev_int
      rw [this]
      by_cases h : k = b
      · subst h; simp
      · have h2 : ¬ b = k := fun z => h z.symm
        simp [h, h2]
  show R.ok (PyData.bool ((S.map PyData.int).any fun y => y.eqv (PyData.int b))) = _
  rw [key]
theorem few_bits {m z : Nat} (hm : m ≤ 20) (h : z < 2 ^ m) : (bsN z).length ≤ 20 := by
  rw [bs_cut (l := m) (by omega) h]
  have := List.length_filter_le (fun b => z.testBit b) (List.range m)
  rw [List.length_range] at this
  omega
theorem bok_of {m : Nat} (hm : m ≤ 20) {z : Int} (h0 : 0 ≤ z) (h1 : z < 2 ^ m) (h2 : z % 2 = 0) : BOk z := by
  obtain ⟨n, rfl⟩ := Int.eq_ofNat_of_zero_le h0
  have lt : n < 2 ^ m := by
    rw [← pow_int] at h1
    exact Int.ofNat_lt.mp h1
  refine ⟨h0, ?_, h2, by rw [Int.toNat_natCast]; exact few_bits hm lt⟩
  rw [← pow_int]
  exact Int.ofNat_lt.mpr (Nat.lt_of_lt_of_le lt (Nat.pow_le_pow_right (by decide) (by omega)))
theorem bsI_lt {m : Nat} {z : Int} (h0 : 0 ≤ z) (h1 : z < 2 ^ m) (hm : m ≤ 20) : ∀ b, b ∈ bsI z → b < m := fun b hb => by
  obtain ⟨n, rfl⟩ := Int.eq_ofNat_of_zero_le h0
  have lt : n < 2 ^ m := by
    rw [← pow_int] at h1
    exact Int.ofNat_lt.mp h1
  obtain ⟨c, hc, rfl⟩ := List.mem_map.mp hb
  rw [Int.toNat_natCast] at hc
  rw [bs_cut (l := m) (by omega) lt] at hc
  have := List.mem_range.mp (List.mem_filter.mp hc).1
  omega
theorem s_settled54 (Φ : Nat → List PyData → R PyData) (h1 : Sp_wl (Φ 134)) (h2 : Sp_reduced (Φ 82)) (h3 : Sp_added (Φ 1)) (h4 : Sp_form (Φ 38)) : Sp_settled54 (f_settled_sum Φ) := by
  intro m s tn hm hs
  obtain ⟨w, l, h, t, ps, ts, hd⟩ := s
  obtain ⟨e1, e2', cp, tt, pl, tl, pm, tm⟩ := hs
  subst e1 e2'
  have pl : ps.length ≤ 200 := pl
  have kr := kp_red tn
  have kl : (kpN tn).length ≤ 200 := Nat.le_trans (kp_len tn) tl
  have kt := kp_lt tm
  suffices hh : T (evSs Φ 1000000 c_settled_sum (startP 12 [e6 ⟨w, l, h, t, ps, nI tn, []⟩])) (fun r => (1 ∈ kpN tn ∧ endV r = .ok .none) ∨ (1 ∉ kpN tn ∧ ∃ T fm, Told m ⟨w, l, h, t, ps, nI tn, []⟩ (kpN tn) T fm ∧ endV r = .ok (eset ⟨w, l, h, t, ps, nI tn, []⟩ T fm (kpN tn)))) by
    rcases hh with ⟨a, b⟩ | ⟨a, T', fm, b, c⟩
    · exact .inl ⟨a, f_T rfl b⟩
    · exact .inr ⟨a, T', fm, b, f_T rfl c⟩
  unfold c_settled_sum
  one_sign
  refine t_asg_tp (ps := [.tuple [.int w, .int l], .int h, .int t, .tuple (ps.map e2), .tuple ((nI tn).map .int), .tuple []]) (ρ1 := [V (e6 ⟨w, l, h, t, ps, nI tn, []⟩), none, none, V (.tuple [.int w, .int l]), V (.int h), V (.int t), V (.tuple (ps.map e2)), V (.tuple ((nI tn).map .int)), V (.tuple []), none, none, none]) (by rfl) ?_ (by rfl) ?_
  · show noLists _ = true
    have a1 := nl_e2s ps
    have a2 := nl_ints (nI tn)
    show (noList (.tuple [.int w, .int l]) && (noList (.int h) && (noList (.int t) && (noLists (ps.map e2) && (noLists ((nI tn).map .int) && (noLists [] && true)))))) = true
    rw [a1, a2]; rfl
  refine t_ife (t := false) (by rfl) ?_
  simp only [cond_false, List.nil_append]
  have kv : evE Φ (.call 82 false [.var 7] []) [V (e6 ⟨w, l, h, t, ps, nI tn, []⟩), none, none, V (.tuple [.int w, .int l]), V (.int h), V (.int t), V (.tuple (ps.map e2)), V (.tuple ((nI tn).map .int)), V (.tuple []), none, none, none] = .ok (.list ((nI (kpN tn)).map .int)) := by
    rw [nI_kp]
    exact h2 tn (by omega)
  refine t_asg_l (ps := (nI (kpN tn)).map .int) (ρ1 := [V (e6 ⟨w, l, h, t, ps, nI tn, []⟩), V (.list ((nI (kpN tn)).map .int)), none, V (.tuple [.int w, .int l]), V (.int h), V (.int t), V (.tuple (ps.map e2)), V (.tuple ((nI tn).map .int)), V (.tuple []), none, none, none]) kv (by rfl) ?_
  have one : ((1 : Int) ∈ nI (kpN tn)) ↔ 1 ∈ kpN tn := by
    unfold nI
    rw [List.mem_map]
    constructor
    · rintro ⟨n, hn, e⟩
      have : n = 1 := by omega
      exact this ▸ hn
    · intro h; exact ⟨1, h, rfl⟩
  refine t_if (t := decide ((1 : Int) ∈ nI (kpN tn))) (by rw [e_cmp]; exact cm_inI 1 _) (fun c => ?_) (fun c => ?_)
  · exact t_ret (p := .none) (by rfl) (.inl ⟨one.mp (of_decide_eq_true c), rfl⟩)
  have c1 : 1 ∉ kpN tn := fun z => of_decide_eq_false c (one.mpr z)
  refine t_asg_n (p := .tuple [.int t, .tuple []]) (ρ1 := [V (e6 ⟨w, l, h, t, ps, nI tn, []⟩), V (.list ((nI (kpN tn)).map .int)), V (.tuple [.int t, .tuple ([].map e2)]), V (.tuple [.int w, .int l]), V (.int h), V (.int t), V (.tuple (ps.map e2)), V (.tuple ((nI tn).map .int)), V (.tuple []), none, none, none]) (by rfl) rfl (by rfl) ?_
  refine t_forT (vs := [9, 10]) ps (fun p => [.int p.1, .int p.2]) (p := .tuple (ps.map e2)) (ρ1 := [V (e6 ⟨w, l, h, t, ps, nI tn, []⟩), V (.list ((nI (kpN tn)).map .int)), V (.tuple [.int t, .tuple ([].map e2)]), V (.tuple [.int w, .int l]), V (.int h), V (.int t), V (.tuple (ps.map e2)), V (.tuple ((nI tn).map .int)), V (.tuple []), none, none, none]) (I := fun i ρ => ∃ (T : Int) (qs : List (Int × Int)) (s9 s10 s11 : Sl), ρ = [V (e6 ⟨w, l, h, t, ps, nI tn, []⟩), V (.list ((nI (kpN tn)).map .int)), V (.tuple [.int T, .tuple (qs.map e2)]), V (.tuple [.int w, .int l]), V (.int h), V (.int t), V (.tuple (ps.map e2)), V (.tuple ((nI tn).map .int)), V (.tuple []), s9, s10, s11] ∧ Canon qs ∧ qs.length ≤ i ∧ (0 ≤ T ∧ T < 8) ∧ (∀ q, q ∈ qs → q.1 < 2 ^ m ∧ ∀ u, u ∈ kpN tn → q.1.toNat.testBit (Nat.log2 u) = false) ∧ ∀ B : Nat, B % 2 = 1 → Zero B (kpN tn) → (T + sW (odv · B) qs - (t + sW (odv · B) (ps.take i))) % 8 = 0) (K := fun _ => False) (by rfl) (.inl rfl) (by rfl) ⟨t, [], none, none, none, rfl, ⟨(fun p hp => by cases hp), List.Pairwise.nil⟩, Nat.le_refl _, tt, (fun q hq => by cases hq), fun B _ _ => by
    show (t + 0 - (t + 0)) % 8 = 0
    omega⟩ ?_ (fun _ h => h.elim) ?_
  · rintro i p ρ hi ⟨T, qs, s9, s10, s11, rfl, cq, ql, T8, qk, inv⟩
    have ilt := len_take1 hi
    have hp := List.mem_of_getElem? hi
    obtain ⟨p0, p2, p3, p4⟩ := cp.pp p hp
    obtain ⟨n, hn⟩ := Int.eq_ofNat_of_zero_le (Int.le_of_lt p0)
    have nlt : n < 2 ^ m := by
      have := pm p hp
      rw [hn, ← pow_int] at this
      exact Int.ofNat_lt.mp this
    refine ⟨_, rfl, ?_⟩
    rw [hn]
    simp only [List.set_cons_zero, List.set_cons_succ]
    generalize hQ : (Lp _ _ _ : R Fl → Prop) = QQ
    refine t_forL (kpN tn) (fun n : Nat => PyData.int n) (p := .list ((nI (kpN tn)).map .int)) (ρ1 := [V (e6 ⟨w, l, h, t, ps, nI tn, []⟩), V (.list ((nI (kpN tn)).map .int)), V (.tuple [.int T, .tuple (qs.map e2)]), V (.tuple [.int w, .int l]), V (.int h), V (.int t), V (.tuple (ps.map e2)), V (.tuple ((nI tn).map .int)), V (.tuple []), V (.int n), V (.int p.2), s11]) (I := fun j ρ => ∃ s11 : Sl, ρ = [V (e6 ⟨w, l, h, t, ps, nI tn, []⟩), V (.list ((nI (kpN tn)).map .int)), V (.tuple [.int T, .tuple (qs.map e2)]), V (.tuple [.int w, .int l]), V (.int h), V (.int t), V (.tuple (ps.map e2)), V (.tuple ((nI tn).map .int)), V (.tuple []), V (.int (((kpN tn).take j).foldl wlN n : Nat)), V (.int p.2), s11]) (K := fun _ => False) (by rfl) (.inr (by rw [nI_map])) (by rfl) ⟨s11, rfl⟩ ?_ (fun _ h => h.elim) ?_
    · rintro j u ρ hj ⟨s11, rfl⟩
      simp only [List.set_cons_zero, List.set_cons_succ]
      have up := kr.pos u (List.mem_of_getElem? hj)
      refine t_asg_n (p := .int (((kpN tn).take (j + 1)).foldl wlN n : Nat)) (ρ1 := [V (e6 ⟨w, l, h, t, ps, nI tn, []⟩), V (.list ((nI (kpN tn)).map .int)), V (.tuple [.int T, .tuple (qs.map e2)]), V (.tuple [.int w, .int l]), V (.int h), V (.int t), V (.tuple (ps.map e2)), V (.tuple ((nI tn).map .int)), V (.tuple []), V (.int (((kpN tn).take (j + 1)).foldl wlN n : Nat)), V (.int p.2), V (.int u)]) ?_ rfl (by rfl) (t_nil ⟨_, rfl⟩)
      rw [List.take_add_one, hj, List.foldl_append]
      exact h1 _ u up
    · rintro ρ' ⟨s11, rfl⟩
      rw [← hQ, List.take_length]
      have fl := fold_lt (kpN tn) n nlt kt
      have fz := kr.fold n
      have fv : ∀ B, Zero B (kpN tn) → vN ((kpN tn).foldl wlN n) B = vN n B := fun B hB => fold_v (kpN tn) n hB
      generalize (kpN tn).foldl wlN n = b at *
      obtain ⟨us, cu, ul, uk, ev⟩ := h3 T qs b p.2 cq (Int.natCast_nonneg _) (by omega)
      refine t_asg_n (p := .tuple [.int ((if (b : Int) % 2 = 1 then T + p.2 else T) % 8), .tuple (us.map e2)]) (ρ1 := [V (e6 ⟨w, l, h, t, ps, nI tn, []⟩), V (.list ((nI (kpN tn)).map .int)), V (.tuple [.int ((if (b : Int) % 2 = 1 then T + p.2 else T) % 8), .tuple (us.map e2)]), V (.tuple [.int w, .int l]), V (.int h), V (.int t), V (.tuple (ps.map e2)), V (.tuple ((nI tn).map .int)), V (.tuple []), V (.int b), V (.int p.2), s11]) ?_ ?_ (by rfl) (t_nil ⟨_, us, _, _, _, rfl, cu, by omega, ⟨Int.emod_nonneg _ (by decide), Int.emod_lt_of_pos _ (by decide)⟩, fun q hq => ?_, fun B hB hz => ?_⟩)
      · exact ev
      · show (noList (.int ((if (b : Int) % 2 = 1 then T + p.2 else T) % 8)) && (noLists (us.map e2) && true)) = true
        rw [nl_e2s]; rfl
      · have hv := vz_mem cu.nd hq
        have q1 := (cu.pp q hq).2.2.1
        rw [uk q.1] at hv
        by_cases c : q.1 = evb b ∧ 0 < q.1
        · have e : q.1 = ((b - b % 2 : Nat) : Int) := by
            rw [c.1]; unfold evb; omega
          refine ⟨?_, fun u hu => ?_⟩
          · rw [e, ← pow_int]
            exact Int.ofNat_lt.mpr (by omega)
          · rw [e, Int.toNat_natCast]
            have u2 : 1 ≤ Nat.log2 u := by
              have u0 := kr.pos u hu
              have u1 : u ≠ 1 := fun z => c1 (z ▸ hu)
              exact (Nat.le_log2 (by omega)).mpr (by omega)
            obtain ⟨k, hk⟩ : ∃ k, Nat.log2 u = k + 1 := ⟨Nat.log2 u - 1, by omega⟩
            have := fz u hu
            rw [hk, Nat.testBit_succ] at this ⊢
            rw [show (b - b % 2) / 2 = b / 2 by omega]
            exact this
        · rw [if_neg c] at hv
          have : q ∈ qs := (cq.mem q).mpr ⟨hv, by omega⟩
          exact qk q this
      · have st := step_sumF (T := T) (e := p.2) (b := (b : Int)) (B := (B : Int)) (tot := t + sW (odv · B) (ps.take i)) cq cu uk (Int.natCast_nonneg b) (Int.natCast_nonneg B) (by omega) (inv B hB hz)
        rw [take_sWF (odv · B) hi]
        have ev2 : odv (b : Int) B = odv p.1 B := by rw [hn, odv_vN, odv_vN, fv B hz]
        rw [ev2] at st
        rw [show t + (sW (odv · B) (ps.take i) + p.2 * odv p.1 B) = t + sW (odv · B) (ps.take i) + p.2 * odv p.1 B by omega]
        exact st
  · rintro ρ' ⟨T, qs, s9, s10, s11, rfl, cq, ql, T8, qk, inv⟩
    rw [List.take_length] at inv
    have tok : TOk qs := fun q hq => by
      obtain ⟨a1, a2, a3, a4⟩ := cq.pp q hq
      exact ⟨bok_of hm (by omega) (qk q hq).1 a2, by omega, by omega⟩
    obtain ⟨fm, fo, fsub, fsum, ef⟩ := h4 qs tok (by omega)
    refine t_ret (p := eset ⟨w, l, h, t, ps, nI tn, []⟩ T fm (kpN tn)) ?_ (.inr ⟨c1, T, fm, ⟨fo, T8, fun p hp b hb => ?_, fun p hp u hu hb => ?_, fun B hB hz => ?_⟩, rfl⟩)
    · have ef2 : evE Φ (.call 38 false [.idx (.var 2) (.cst (.int 1))] []) [V (e6 ⟨w, l, h, t, ps, nI tn, []⟩), V (.list ((nI (kpN tn)).map .int)), V (.tuple [.int T, .tuple (qs.map e2)]), V (.tuple [.int w, .int l]), V (.int h), V (.int t), V (.tuple (ps.map e2)), V (.tuple ((nI tn).map .int)), V (.tuple []), s9, s10, s11] = .ok (eform fm) := ef
      have a0 : evE Φ (.idx (.var 2) (.cst (.int 0))) [V (e6 ⟨w, l, h, t, ps, nI tn, []⟩), V (.list ((nI (kpN tn)).map .int)), V (.tuple [.int T, .tuple (qs.map e2)]), V (.tuple [.int w, .int l]), V (.int h), V (.int t), V (.tuple (ps.map e2)), V (.tuple ((nI tn).map .int)), V (.tuple []), s9, s10, s11] = .ok (.int T) := by rfl
      rw [e_tup, es_cons, es_cons, es_cons, a0, es_cons, ef2]; rfl
    · obtain ⟨q, hq, hsub⟩ := fsub p hp
      obtain ⟨a1, a2, a3, a4⟩ := cq.pp q hq
      exact ⟨(tok q hq).1.pos b (hsub.subset hb), bsI_lt (by omega) (qk q hq).1 hm b (hsub.subset hb)⟩
    · obtain ⟨q, hq, hsub⟩ := fsub p hp
      have := (mem_bsI (tok q hq).1 (Int.natCast_nonneg _)).mp (hsub.subset hb)
      obtain ⟨n, hn⟩ := Int.eq_ofNat_of_zero_le (tok q hq).1.z0
      rw [hn, bitI_N] at this
      have z := (qk q hq).2 u hu
      rw [hn, Int.toNat_natCast] at z
      rw [z] at this
      cases this
    · have a1 := fsum (prodL (oneB B))
      have a2 := tot_B (B := B) qs tok fun q hq => Int.lt_of_lt_of_le (qk q hq).1 (by
        rw [← pow_int, ← pow_int]
        exact Int.ofNat_le.mpr (Nat.pow_le_pow_right (by decide) (by omega)))
      have a3 := inv B hB hz
      show (T + sQ (prodL (oneB B)) fm - (t + sW (odv · B) ps)) % 8 = 0
      clear inv qk
      generalize sQ (prodL (oneB B)) fm = x1 at *
      generalize totF (prodL (oneB B)) qs = x2 at *
      generalize sW (odv · B) qs = x3 at *
      generalize sW (odv · B) ps = x4 at *
      omega
end
section
def c__law_added : List S := [.lenv 1 [.ife (.cmp .eq (.bin .mod (.var 2) (.cst (.int 2))) (.cst (.int 1))) [.asg (.nm 0) (.bin .add (.var 0) (.var 3)), .asg (.nm 3) (.neg (.var 3)), .asg (.nm 2) (.bin .sub (.var 2) (.cst (.int 1)))] [], .ife (.cmp .gt (.var 2) (.cst (.int 0))) [.dput 1 (.var 2) (.bin .mod (.bin .add (.dgt2 (.var 1) (.var 2) (.cst (.int 0))) (.var 3)) (.cst (.int 8)))] []] (.bin .mod (.var 0) (.cst (.int 8)))]
def f__law_added (Φ : Nat → List PyData → R PyData) : List PyData → R PyData := fn Φ 4 4 c__law_added
def c__law_sum : List S := [.asg (.nm 4) (.bin .add (.bin .add (.bin .mul (.cst (.int 2)) (.idx (.var 1) (.cst (.int 0)))) (.idx (.var 1) (.cst (.int 1)))) (.cst (.int 1))), .asg (.nm 5) (.cst (.int 0)), .dnew 6, .asg (.nm 7) (.lst []), .loop (.nm 8) .seq [.var 0] [.asg (.nm 10) (.bin .mod (.bin .fdiv (.var 8) (.cst (.int 3))) (.bin .shl (.cst (.int 1)) (.var 4))), .ife (.disj (.cmp .gt (.bin .mod (.var 8) (.cst (.int 3))) (.cst (.int 0))) (.cmp .eq (.bi .len [.var 7]) (.var 3))) [.crfv 5 6 1001 (.var 5) [.var 10, .bin .mod (.bin .fdiv (.var 8) (.cst (.int 96))) (.cst (.int 8))]] [.ife (.conj (.cmp .gt (.var 10) (.cst (.int 0))) (.cmp .notin (.var 10) (.var 7))) [.app 7 (.var 10)] []]], .asg (.nm 9) (.bi .tuple1 [.comp [10] (.nm 10) .seq [.dsrt (.var 6)] (some (.cmp .gt (.dget (.var 6) (.var 10)) (.cst (.int 0)))) (.tup [.var 10, .dget (.var 6) (.var 10)])]), .ret false (.tup [.var 1, .var 2, .var 5, .var 9, .bi .tuple1 [.bi .sorted1 [.var 7]], .tup []])]
def f__law_sum (Φ : Nat → List PyData → R PyData) : List PyData → R PyData := fn Φ 4 11 c__law_sum
/-! ### a dict lent behind the first value -/
section
variable {Φ : Nat → List PyData → R PyData} {w : Nat} {ρ ρ1 : PEnv} {Q : R Fl → Prop} {ss : List S}
theorem t_lenv {i : Nat} {b : List S} {e : E} {bb : Bool} {l : List (Int × PyData)} (h0 : ρ[i]? = some (some (bb, .dict (dL l)))) (hl : scs l = true) (hρ : ρ.set i (DM l) = ρ1)
    (h : T (evSs Φ w b ρ1) (fun r => ∃ ρ2 l2 p, r = .ok (.nx ρ2) ∧ ρ2[i]? = some (DM l2) ∧ scs l2 = true ∧ evE Φ e ρ2 = .ok p ∧ noList p = true ∧ Q (.ok (.rt (.tuple [.dict (dL l2), p]))))) : T (evSs Φ w [.lenv i b e] ρ) Q := by
  obtain ⟨ρ2, l2, p, e1, e2, s2, e3, np, q⟩ := h
  have : evS Φ w (.lenv i b e) ρ = .ok (.rt (.tuple [.dict (dL l2), p])) := by
    show (match ρ[i]? with
      | some (some (_, .dict ks)) => (optR (unD ks)).bind fun l => (evSs Φ w b (ρ.set i (some (true, .dict ((.none, .none) :: dL l))))).bind fun fl => (match fl with
        | .nx ρ1 => (evE Φ e ρ1).bind fun p => guardR (noList p) ((optR ρ1[i]?).bind fun sl => (dslot sl).bind fun ks => guardR (isM ks) ((optR (unD ks)).bind fun l => R.ok (Fl.rt (.tuple [.dict (dL l), p]))))
        | _ => .bad)
      | _ => .bad) = _
    rw [h0]
    show ((optR (unD (dL l))).bind fun l => (evSs Φ w b (ρ.set i (some (true, .dict ((.none, .none) :: dL l))))).bind fun fl => (match fl with
        | .nx ρ1 => (evE Φ e ρ1).bind fun p => guardR (noList p) ((optR ρ1[i]?).bind fun sl => (dslot sl).bind fun ks => guardR (isM ks) ((optR (unD ks)).bind fun l => R.ok (Fl.rt (.tuple [.dict (dL l), p]))))
        | _ => .bad)) = _
    rw [unD_dL hl]
    show ((evSs Φ w b (ρ.set i (DM l))).bind _) = _
    rw [hρ, e1]
    show ((evE Φ e ρ2).bind fun p => guardR (noList p) ((optR ρ2[i]?).bind fun sl => (dslot sl).bind fun ks => guardR (isM ks) ((optR (unD ks)).bind fun l => R.ok (Fl.rt (.tuple [.dict (dL l), p]))))) = _
    rw [e3, bind_ok, np, guard_true, e2]
    show ((optR (unDs (dL l2))).bind fun l => R.ok (Fl.rt (.tuple [.dict (dL l), p]))) = _
    rw [unDs_dL s2]; rfl
  unfold T
  rw [evSs_c, this]
  exact q
theorem t_crfv {j i f : Nat} {a : E} {es : List E} {p0 q : PyData} {ps : List PyData} {l l' : List (Int × PyData)} (hi : ρ[i]? = some (DD l)) (hl : scs l = true) (ha : evE Φ a ρ = .ok p0) (he : evEs Φ es ρ = .ok ps) (hn : (noList p0 && noLists ps) = true) (hf : Φ f (p0 :: .dict (dL l) :: ps) = .ok (.tuple [.dict (dL l'), q])) (hl' : scs l' = true) (hm : isM (dL l') = false) (hq : noList q = true) (hρ : (ρ.set i (DD l')).set j (V q) = ρ1) (h : T (evSs Φ w ss ρ1) Q) : T (evSs Φ w (.crfv j i f a es :: ss) ρ) Q := by
  have : evS Φ w (.crfv j i f a es) ρ = .ok (.nx ρ1) := by
    show ((optR ρ[i]?).bind fun sl => (dslot sl).bind fun ks => (optR (unD ks)).bind fun l => (evE Φ a ρ).bind fun p0 => (evEs Φ es ρ).bind fun ps => guardR (noList p0 && noLists ps) ((Φ f (p0 :: .dict (dL l) :: ps)).calm.bind fun r => (pairV r).bind fun q => .ok (Fl.nx ((ρ.set i (some (true, .dict (reD ks q.1)))).set j (some (false, q.2)))))) = _
    rw [hi]
    show ((optR (unD (dL l))).bind fun l0 => (evE Φ a ρ).bind fun p0 => (evEs Φ es ρ).bind fun ps => guardR (noList p0 && noLists ps) ((Φ f (p0 :: .dict (dL l0) :: ps)).calm.bind fun r => (pairV r).bind fun q => .ok (Fl.nx ((ρ.set i (some (true, .dict (reD (dL l) q.1)))).set j (some (false, q.2)))))) = _
    rw [unD_dL hl]
    show ((evE Φ a ρ).bind fun p0 => (evEs Φ es ρ).bind fun ps => guardR (noList p0 && noLists ps) ((Φ f (p0 :: .dict (dL l) :: ps)).calm.bind fun r => (pairV r).bind fun q => .ok (Fl.nx ((ρ.set i (some (true, .dict (reD (dL l) q.1)))).set j (some (false, q.2)))))) = _
    rw [ha, bind_ok, he, bind_ok, hn, guard_true, hf]
    show ((guardR (noList q && !isM (dL l')) ((optR (unD (dL l'))).bind fun l => R.ok (l, q))).bind fun q => R.ok (Fl.nx ((ρ.set i (some (true, .dict (reD (dL l) q.1)))).set j (some (false, q.2))))) = _
    rw [hq, hm]
    show (((optR (unD (dL l'))).bind fun l => R.ok (l, q)).bind fun q => R.ok (Fl.nx ((ρ.set i (some (true, .dict (reD (dL l) q.1)))).set j (some (false, q.2))))) = _
    rw [unD_dL hl']
    show R.ok (Fl.nx ((ρ.set i (some (true, .dict (reD (dL l) l')))).set j (some (false, q)))) = _
    rw [reD_dL, ← hρ]
  unfold T
  rw [evSs_c, this]
  exact h
end
theorem isM_tI (l : List (Int × Int)) : isM (dL (tI l)) = false := by
  cases l <;> rfl
/-! ### the law's own numbers -/
/-! ### turns put in -/
structure CD (m : Nat) (tl : List (Int × Int)) : Prop where
  nd : (tl.map (·.1)).Nodup
  pp : ∀ q, q ∈ tl → 0 < q.1 ∧ q.1 % 2 = 0 ∧ 0 ≤ q.2 ∧ q.2 < 8 ∧ q.1 < 2 ^ m
def addD (tl : List (Int × Int)) (b e : Int) : List (Int × Int) := if 0 < evb b then putZ tl (evb b) ((vz tl (evb b) + sgb b e) % 8) else tl
theorem addD_len (tl : List (Int × Int)) (b e : Int) : (addD tl b e).length ≤ tl.length + 1 := by
  unfold addD
  split
  · exact len_putZ _ _ _
  · omega
theorem addD_ok {m : Nat} {tl : List (Int × Int)} (h : CD m tl) {b : Int} (hb : 0 ≤ b) (hm : b < 2 ^ m) (e : Int) : CD m (addD tl b e) := by
  unfold addD
  split
  · rename_i c
    refine ⟨by rw [putZ_keys]; exact nodup_put h.nd _, fun q hq => ?_⟩
    rcases putZ_mem hq with hq | rfl
    · exact h.pp q hq
    · refine ⟨c, by show evb b % 2 = 0; unfold evb; omega, Int.emod_nonneg _ (by decide), Int.emod_lt_of_pos _ (by decide), ?_⟩
      show evb b < 2 ^ m
      unfold evb; omega
  · exact h
theorem addD_v (tl : List (Int × Int)) (b e : Int) {k : Int} (hk : 0 < k) : vz (addD tl b e) k = if k = evb b then (vz tl k + sgb b e) % 8 else vz tl k := by
  unfold addD
  split
  · rw [vz_put]
    by_cases c : k = evb b
    · rw [if_pos c, if_pos c, c]
    · rw [if_neg c, if_neg c]
  · rw [if_neg (by omega)]
def adT (t b e : Int) : Int := (if b % 2 = 1 then t + e else t) % 8
def Sp_ladded (F : List PyData → R PyData) : Prop := ∀ (t : Int) (tl : List (Int × Int)) (b e : Int), tl.length ≤ 10000 → F [.int t, .dict (dL (tI tl)), .int b, .int e] = .ok (.tuple [.dict (dL (tI (addD tl b e))), .int (adT t b e)])
theorem s_ladded (Φ : Nat → List PyData → R PyData) : Sp_ladded (f__law_added Φ) := by
  intro t tl b e hl
  refine f_T rfl ?_
  unfold c__law_added
  one_sign
  refine t_lenv (l := tI tl) (ρ1 := [V (.int t), DM (tI tl), V (.int b), V (.int e)]) (by rfl) (scs_tI tl) (by rfl) ?_
  refine t_ifj (fun ρ => ρ = [V (.int (if b % 2 = 1 then t + e else t)), DM (tI tl), V (.int (evb b)), V (.int (sgb b e))]) (t := decide (b % 2 = 1)) ?_ (fun h => ?_) (fun h => ?_) ?_
  · rw [e_cmp, e_bin]
    exact odd_mod
  · have h := of_decide_eq_true h
    refine t_asg_n (p := .int (t + e)) (ρ1 := [V (.int (t + e)), DM (tI tl), V (.int b), V (.int e)]) (by rfl) rfl (by rfl) ?_
    refine t_asg_n (p := .int (-e)) (ρ1 := [V (.int (t + e)), DM (tI tl), V (.int b), V (.int (-e))]) (by rfl) rfl (by rfl) ?_
    refine t_asg_n (p := .int (evb b)) (ρ1 := [V (.int (t + e)), DM (tI tl), V (.int (evb b)), V (.int (-e))]) ?_ rfl (by rfl) (t_nil (nxt ?_))
    · rw [e_bin]
      show R.ok (PyData.int (b - 1)) = _
      unfold evb
      rw [h]
    · unfold sgb
      rw [if_pos h, if_pos h]
  · have h := of_decide_eq_false h
    have e2 : evb b = b := by unfold evb; omega
    refine t_nil (nxt ?_)
    unfold sgb
    rw [if_neg h, if_neg h, e2]
  rintro ρ rfl
  have fin : ∀ tl' : List (Int × Int), addD tl b e = tl' → ∀ (ρ : PEnv), ρ = [V (.int (if b % 2 = 1 then t + e else t)), DM (tI tl'), V (.int (evb b)), V (.int (sgb b e))] → ∃ ρ2 l2 p, (R.ok (Fl.nx ρ) : R Fl) = .ok (.nx ρ2) ∧ ρ2[1]? = some (DM l2) ∧ scs l2 = true ∧ evE Φ (.bin .mod (.var 0) (.cst (.int 8))) ρ2 = .ok p ∧ noList p = true ∧ endV (.ok (.rt (.tuple [.dict (dL l2), p]))) = .ok (.tuple [.dict (dL (tI (addD tl b e))), .int (adT t b e)]) := fun tl' h ρ hρ => by
    subst hρ
    refine ⟨_, tI tl', .int (adT t b e), rfl, rfl, scs_tI _, ?_, rfl, by rw [h]; rfl⟩
    rw [e_bin]
    exact mdD _ 8 (by decide)
  refine t_if (t := decide (0 < evb b)) (by rw [e_cmp]; exact cm_gt) (fun h => ?_) (fun h => ?_)
  · have h := of_decide_eq_true h
    have nv : evE Φ (.bin .mod (.bin .add (.dgt2 (.var 1) (.var 2) (.cst (.int 0))) (.var 3)) (.cst (.int 8))) [V (.int (if b % 2 = 1 then t + e else t)), DM (tI tl), V (.int (evb b)), V (.int (sgb b e))] = .ok (.int ((vz tl (evb b) + sgb b e) % 8)) := by
      have d0 : evE Φ (.dgt2 (.var 1) (.var 2) (.cst (.int 0))) [V (.int (if b % 2 = 1 then t + e else t)), DM (tI tl), V (.int (evb b)), V (.int (sgb b e))] = .ok (.int (vz tl (evb b))) := by
        rw [e_dgt2]
        show ((dictV (.dict ((.none, .none) :: dL (tI tl)))).bind fun l => dgt2V l (evb b) (.int 0)) = _
        rw [dictV_mk (scs_tI tl), bind_ok, dg2_tI]
      rw [e_bin, e_bin, d0]
      exact mdD (vz tl (evb b) + sgb b e) 8 (by decide)
    refine t_dputM (p := .int ((vz tl (evb b) + sgb b e) % 8)) (j := evb b) (l := tI tl) (ρ1 := [V (.int (if b % 2 = 1 then t + e else t)), DM (tI (putZ tl (evb b) ((vz tl (evb b) + sgb b e) % 8))), V (.int (evb b)), V (.int (sgb b e))]) nv (by rfl) (by rfl) (scs_tI tl) rfl (by unfold tI; rw [List.length_map]; omega) (by rw [putI_tI]; rfl) ?_
    refine t_nil (fin _ ?_ _ rfl)
    unfold addD
    rw [if_pos h]
  · have h := of_decide_eq_false h
    refine t_nil (fin _ ?_ _ rfl)
    unfold addD
    rw [if_neg h]
/-! ### the sum of some cells -/
def canD (tl : List (Int × Int)) : List (Int × Int) := ((sortI (tl.map (·.1))).filter fun k => decide (0 < vz tl k)).map fun k => (k, vz tl k)
theorem CD.range {m : Nat} {tl : List (Int × Int)} (c : CD m tl) (k : Int) : 0 ≤ vz tl k ∧ vz tl k < 8 := by
  by_cases h : k ∈ tl.map (·.1)
  · obtain ⟨q, hq, rfl⟩ := List.mem_map.mp h
    rw [vz_mem c.nd hq]
    have := c.pp q hq
    omega
  · rw [vz_no h]
    omega
theorem canD_ok {m : Nat} {tl : List (Int × Int)} (c : CD m tl) : Canon (canD tl) ∧ (∀ p, p ∈ canD tl → p.1 < 2 ^ m) ∧ (canD tl).length ≤ tl.length ∧ ∀ k, vz (canD tl) k = vz tl k := by
  have mem : ∀ p, p ∈ canD tl → ∃ q, q ∈ tl ∧ q.1 = p.1 ∧ 0 < p.2 ∧ p.2 = vz tl p.1 := fun p hp => by
    obtain ⟨k, hk, rfl⟩ := List.mem_map.mp hp
    obtain ⟨h1, h2⟩ := List.mem_filter.mp hk
    have hm := (sortI_perm _).mem_iff.mp h1
    obtain ⟨q, hq, e⟩ := List.mem_map.mp hm
    exact ⟨q, hq, e, of_decide_eq_true h2, rfl⟩
  refine ⟨⟨fun p hp => ?_, List.pairwise_map.mpr ((sort_lt c.nd).filter _)⟩, fun p hp => ?_, ?_, fun k => ?_⟩
  · obtain ⟨q, hq, e, h0, e2⟩ := mem p hp
    have := c.pp q hq
    have r := c.range p.1
    rw [e] at this
    exact ⟨this.1, this.2.1, by omega, by omega⟩
  · obtain ⟨q, hq, e, h0, e2⟩ := mem p hp
    have := c.pp q hq
    rw [e] at this
    exact this.2.2.2.2
  · unfold canD
    rw [List.length_map]
    refine Nat.le_trans (List.length_filter_le _ _) ?_
    rw [(sortI_perm _).length_eq, List.length_map]
    exact Nat.le_refl _
  · have nd : ((sortI (tl.map (·.1))).filter fun k => decide (0 < vz tl k)).Nodup := ((sortI_perm _).nodup_iff.mpr c.nd).filter _
    unfold canD
    rw [vz_keys nd]
    by_cases h : k ∈ (sortI (tl.map (·.1))).filter fun k => decide (0 < vz tl k)
    · rw [if_pos h]
    · rw [if_neg h]
      have r := c.range k
      by_cases hm : k ∈ tl.map (·.1)
      · have : ¬ 0 < vz tl k := fun z => h (List.mem_filter.mpr ⟨(sortI_perm _).mem_iff.mpr hm, decide_eq_true z⟩)
        omega
      · rw [vz_no hm]
theorem nI_sort (l : List Nat) : nI ((sortI (nI l)).map Int.toNat) = sortI (nI l) := by
  unfold nI
  rw [List.map_map]
  refine (List.map_congr_left fun x hx => ?_).trans (List.map_id _)
  have := (sortI_perm _).mem_iff.mp hx
  obtain ⟨n, _, rfl⟩ := List.mem_map.mp this
  rfl
theorem mem_sortN (l : List Nat) (n : Nat) : n ∈ (sortI (nI l)).map Int.toNat ↔ n ∈ l := by
  rw [List.mem_map]
  constructor
  · rintro ⟨x, hx, rfl⟩
    obtain ⟨n, hn, rfl⟩ := List.mem_map.mp ((sortI_perm _).mem_iff.mp hx)
    exact hn
  · intro h
    exact ⟨n, (sortI_perm _).mem_iff.mpr (List.mem_map.mpr ⟨n, h, rfl⟩), rfl⟩
theorem cm_notI (b : Int) (S : List Int) : cmV .notin (.int b) (.list (S.map .int)) = .ok (.bool (!decide (b ∈ S))) := by
  have h := cm_inI b S
  change (inV2 (.int b) (S.map .int)).bind (fun b => okB b) = _ at h
  show (inV2 (.int b) (S.map .int)).bind (fun b => okB (!b)) = _
  cases e : inV2 (.int b) (S.map .int) with
  | ok x =>
    rw [e] at h
    have h : R.ok (PyData.bool x) = R.ok (PyData.bool (decide (b ∈ S))) := h
    injection h with h
    injection h with h
    rw [h]; rfl
  | bad => rw [e] at h; cases h
  | ex c as => rw [e] at h; cases h
theorem shl_nn {n : Nat} (h : n ≤ 60) : opV .shl (.int 1) (.int n) = .ok (.int ((2 ^ n : Nat) : Int)) := by
  show guardR (shlOk 1 n) (R.ok (PyData.int (1 * 2 ^ (n : Int).toNat))) = _
  rw [g_shl (by omega) (by omega) (by decide) (by decide), Int.one_mul, Int.toNat_natCast]
  have : ((2 ^ n : Nat) : Int) = 2 ^ n := by simp
  rw [this]
theorem md_22 {n : Nat} (c : Int) : ∃ b : Nat, b < 2 ^ n ∧ opV .mod (.int c) (.int ((2 ^ n : Nat) : Int)) = .ok (.int b) := by
  have p : (0 : Int) < ((2 ^ n : Nat) : Int) := by have := Nat.two_pow_pos n; omega
  refine ⟨(c % ((2 ^ n : Nat) : Int)).toNat, ?_, ?_⟩
  · have := Int.emod_nonneg c (Int.ne_of_gt p)
    have := Int.emod_lt_of_pos c p
    omega
  · show opI2 .mod c _ = _
    rw [mdD _ _ p, Int.toNat_of_nonneg (Int.emod_nonneg c (Int.ne_of_gt p))]
/-- a sum without hidden bits, as the laws make it -/
structure SLaw (w l : Nat) (h : Int) (n : Nat) (s : Sum6) (tn : List Nat) : Prop where
  si : SIn (2 * w + l + 1) s tn
  ew : s.w = w
  el : s.l = l
  eh : s.h = h
  up : (nI tn).Pairwise (· < ·)
  pos : ∀ t, t ∈ tn → 0 < t
  tl : tn.length ≤ n
  pl : s.ps.length ≤ n
def Sp_lsum (F : List PyData → R PyData) : Prop := ∀ (cs : List Int) (w l : Nat) (h ones : Int), cs.length ≤ 60 → 2 * w + l ≤ 9 → ∃ s tn, SLaw w l h cs.length s tn ∧ F [.list (cs.map .int), .tuple [.int w, .int l], .int h, .int ones] = .ok (e6 s)
theorem s_lsum (Φ : Nat → List PyData → R PyData) (h1 : Sp_ladded (Φ 1001)) : Sp_lsum (f__law_sum Φ) := by
  intro cs w l h ones cl wl
  obtain ⟨m, hm⟩ : ∃ m, m = 2 * w + l + 1 := ⟨_, rfl⟩
  suffices hh : T (evSs Φ 1000000 c__law_sum (startP 11 [.list (cs.map .int), .tuple [.int w, .int l], .int h, .int ones])) (fun r => ∃ s tn, SLaw w l h cs.length s tn ∧ endV r = .ok (e6 s)) by
    obtain ⟨s, tn, a, b⟩ := hh
    exact ⟨s, tn, a, f_T rfl b⟩
  unfold c__law_sum
  one_sign
  refine t_asg_n (p := .int m) (ρ1 := [V (.list (cs.map .int)), V (.tuple [.int w, .int l]), V (.int h), V (.int ones), V (.int m), none, none, none, none, none, none]) ?_ rfl (by rfl) ?_
  · show (((opI2 .mul 2 w).bind fun x => opV .add x (.int l)).bind fun x => opV .add x (.int 1)) = _
    rw [op_i_mul, g_mul (by omega) (by omega) (by omega) (by omega)]
    show R.ok (PyData.int (2 * (w : Int) + l + 1)) = _
    congr 2
    omega
  refine t_asg_n (p := .int 0) (ρ1 := [V (.list (cs.map .int)), V (.tuple [.int w, .int l]), V (.int h), V (.int ones), V (.int m), V (.int 0), none, none, none, none, none]) (by rfl) rfl (by rfl) ?_
  refine t_dnew (ρ1 := [V (.list (cs.map .int)), V (.tuple [.int w, .int l]), V (.int h), V (.int ones), V (.int m), V (.int 0), DD (tI []), none, none, none, none]) (by rfl) ?_
  refine t_asg_l (ps := (nI []).map .int) (ρ1 := [V (.list (cs.map .int)), V (.tuple [.int w, .int l]), V (.int h), V (.int ones), V (.int m), V (.int 0), DD (tI []), O ((nI []).map .int), none, none, none]) (by rfl) (by rfl) ?_
  refine t_forL cs PyData.int (p := .list (cs.map .int)) (ρ1 := [V (.list (cs.map .int)), V (.tuple [.int w, .int l]), V (.int h), V (.int ones), V (.int m), V (.int 0), DD (tI []), O ((nI []).map .int), none, none, none]) (I := fun i ρ => ∃ (t : Int) (tl : List (Int × Int)) (tn : List Nat) (s8 : Sl) (s10 : Option PyData), ρ = [V (.list (cs.map .int)), V (.tuple [.int w, .int l]), V (.int h), V (.int ones), V (.int m), V (.int t), DD (tI tl), O ((nI tn).map .int), s8, none, slD s10] ∧ (0 ≤ t ∧ t < 8) ∧ CD m tl ∧ tl.length ≤ i ∧ tn.Nodup ∧ tn.length ≤ i ∧ ∀ t, t ∈ tn → 0 < t ∧ t < 2 ^ m) (K := fun _ => False) (by rfl) (.inr rfl) (by rfl) ⟨0, [], [], none, none, rfl, ⟨by decide, by decide⟩, ⟨List.Pairwise.nil, fun q hq => by cases hq⟩, Nat.le_refl _, List.Pairwise.nil, Nat.le_refl _, fun t ht => by cases ht⟩ ?_ (fun _ h => h.elim) ?_
  · rintro i c ρ hi ⟨t, tl, tn, s8, s10, rfl, t8, cd, tll, nd, tnl, tp⟩
    have il := get_lt hi
    simp only [List.set_cons_zero, List.set_cons_succ]
    obtain ⟨b, bl, be⟩ := md_22 (n := m) (c / 3)
    refine t_asg_n (p := .int b) (ρ1 := [V (.list (cs.map .int)), V (.tuple [.int w, .int l]), V (.int h), V (.int ones), V (.int m), V (.int t), DD (tI tl), O ((nI tn).map .int), V (.int c), none, V (.int b)]) ?_ rfl (by rfl) ?_
    · have ea : evE Φ (.bin .fdiv (.var 8) (.cst (.int 3))) [V (.list (cs.map .int)), V (.tuple [.int w, .int l]), V (.int h), V (.int ones), V (.int m), V (.int t), DD (tI tl), O ((nI tn).map .int), V (.int c), none, slD s10] = .ok (.int (c / 3)) := fdD c 3 (by decide) (by decide)
      have eb : evE Φ (.bin .shl (.cst (.int 1)) (.var 4)) [V (.list (cs.map .int)), V (.tuple [.int w, .int l]), V (.int h), V (.int ones), V (.int m), V (.int t), DD (tI tl), O ((nI tn).map .int), V (.int c), none, slD s10] = .ok (.int ((2 ^ m : Nat) : Int)) := shl_nn (by omega)
      rw [e_bin, ea, bind_ok, eb, bind_ok]
      exact be
    have e3 : evE Φ (.bin .mod (.var 8) (.cst (.int 3))) [V (.list (cs.map .int)), V (.tuple [.int w, .int l]), V (.int h), V (.int ones), V (.int m), V (.int t), DD (tI tl), O ((nI tn).map .int), V (.int c), none, V (.int b)] = .ok (.int (c % 3)) := mdD c 3 (by decide)
    refine t_if (t := decide (0 < c % 3) || decide ((tn.length : Int) = ones)) (ev_dj (by rw [e_cmp, e3]; exact cm_gt) ?_) (fun _ => ?_) (fun _ => ?_)
    · have : evE Φ (.bi .len [.var 7]) [V (.list (cs.map .int)), V (.tuple [.int w, .int l]), V (.int h), V (.int ones), V (.int m), V (.int t), DD (tI tl), O ((nI tn).map .int), V (.int c), none, V (.int b)] = .ok (.int tn.length) := by
        show R.ok (PyData.int (((nI tn).map PyData.int).length : Int)) = _
        unfold nI
        rw [List.length_map, List.length_map]
      rw [e_cmp, this]
      exact cm_eq_ii
    · have e96 : evE Φ (.bin .mod (.bin .fdiv (.var 8) (.cst (.int 96))) (.cst (.int 8))) [V (.list (cs.map .int)), V (.tuple [.int w, .int l]), V (.int h), V (.int ones), V (.int m), V (.int t), DD (tI tl), O ((nI tn).map .int), V (.int c), none, V (.int b)] = .ok (.int (c / 96 % 8)) := by
        have ea : evE Φ (.bin .fdiv (.var 8) (.cst (.int 96))) [V (.list (cs.map .int)), V (.tuple [.int w, .int l]), V (.int h), V (.int ones), V (.int m), V (.int t), DD (tI tl), O ((nI tn).map .int), V (.int c), none, V (.int b)] = .ok (.int (c / 96)) := fdD c 96 (by decide) (by decide)
        rw [e_bin, ea]
        exact mdD _ 8 (by decide)
      have bi : ((b : Int)) < 2 ^ m := by rw [← pow_int]; exact Int.ofNat_lt.mpr bl
      refine t_crfv (l := tI tl) (p0 := .int t) (ps := [.int b, .int (c / 96 % 8)]) (l' := tI (addD tl b (c / 96 % 8))) (q := .int (adT t b (c / 96 % 8))) (ρ1 := [V (.list (cs.map .int)), V (.tuple [.int w, .int l]), V (.int h), V (.int ones), V (.int m), V (.int (adT t b (c / 96 % 8))), DD (tI (addD tl b (c / 96 % 8))), O ((nI tn).map .int), V (.int c), none, V (.int b)]) (by rfl) (scs_tI _) (by rfl) (by rw [es_cons, es_cons, e96]; rfl) rfl (h1 t tl b _ (by omega)) (scs_tI _) (isM_tI _) rfl (by rfl) (t_nil ⟨_, _, tn, _, some (.int b), rfl, ⟨Int.emod_nonneg _ (by decide), Int.emod_lt_of_pos _ (by decide)⟩, addD_ok cd (Int.natCast_nonneg _) bi _, ?_, nd, by omega, tp⟩)
      have := addD_len tl b (c / 96 % 8)
      omega
    · refine t_if (t := decide (0 < (b : Int)) && !decide ((b : Int) ∈ nI tn)) (ev_cj (by rw [e_cmp]; exact cm_gt) (by rw [e_cmp]; exact cm_notI _ _)) (fun hc => ?_) (fun _ => ?_)
      · rw [Bool.and_eq_true, Bool.not_eq_true'] at hc
        have b0 : 0 < b := by have := of_decide_eq_true hc.1; omega
        have bn : b ∉ tn := fun z => of_decide_eq_false hc.2 (List.mem_map.mpr ⟨b, z, rfl⟩)
        refine t_app (p := .int b) (xs := (nI tn).map .int) (ρ1 := [V (.list (cs.map .int)), V (.tuple [.int w, .int l]), V (.int h), V (.int ones), V (.int m), V (.int t), DD (tI tl), O ((nI (tn ++ [b])).map .int), V (.int c), none, V (.int b)]) (by rfl) (by rfl) (by unfold nI; rw [List.length_map, List.length_map]; omega) (by rfl) (by unfold nI; rw [List.map_append, List.map_append]; rfl) (t_nil ⟨t, tl, tn ++ [b], _, some (.int b), rfl, t8, cd, by omega, ?_, ?_, fun u hu => ?_⟩)
        · exact List.nodup_append.mpr ⟨nd, List.pairwise_singleton _ _, fun x hx y hy e => by rw [List.mem_singleton.mp hy] at e; exact bn (e ▸ hx)⟩
        · rw [List.length_append, List.length_singleton]; omega
        · rcases List.mem_append.mp hu with hu | hu
          · exact tp u hu
          · rw [List.mem_singleton.mp hu]; exact ⟨b0, bl⟩
      · exact t_nil ⟨t, tl, tn, _, some (.int b), rfl, t8, cd, by omega, nd, by omega, tp⟩
  · rintro ρ' ⟨t, tl, tn, s8, s10, rfl, t8, cd, tll, nd, tnl, tp⟩
    obtain ⟨c1, c2, c3, c4⟩ := canD_ok cd
    have cp : evE Φ (.comp [10] (.nm 10) .seq [.dsrt (.var 6)] (some (.cmp .gt (.dget (.var 6) (.var 10)) (.cst (.int 0)))) (.tup [.var 10, .dget (.var 6) (.var 10)])) [V (.list (cs.map .int)), V (.tuple [.int w, .int l]), V (.int h), V (.int ones), V (.int m), V (.int t), DD (tI tl), O ((nI tn).map .int), s8, none, slD s10] = .ok (.list ((((sortI (tl.map (·.1))).filter fun k => decide (0 < vz tl k)).map fun k => e2 (k, vz tl k)))) := by
      have dg : ∀ x, x ∈ sortI (tl.map (·.1)) → evE Φ (.dget (.var 6) (.var 10)) [V (.list (cs.map .int)), V (.tuple [.int w, .int l]), V (.int h), V (.int ones), V (.int m), V (.int t), DD (tI tl), O ((nI tn).map .int), s8, none, V (.int x)] = .ok (.int (vz tl x)) := fun x hx => by
        rw [e_dget]
        show ((dictV (.dict (dL (tI tl)))).bind fun l => dgetV l x) = _
        rw [dictV_dL (scs_tI tl), bind_ok, dg_tI ((sortI_perm _).mem_iff.mp hx)]
      refine ev_compF (own := [10]) (v := 10) (e := (.dsrt (.var 6))) (ρ := [V (.list (cs.map .int)), V (.tuple [.int w, .int l]), V (.int h), V (.int ones), V (.int m), V (.int t), DD (tI tl), O ((nI tn).map .int), s8, none, slD s10]) (sortI (tl.map (·.1))) PyData.int (p := .list ((sortI (tl.map (·.1))).map .int)) (ρ1 := [V (.list (cs.map .int)), V (.tuple [.int w, .int l]), V (.int h), V (.int ones), V (.int m), V (.int t), DD (tI tl), O ((nI tn).map .int), s8, none, none]) (t := fun k => decide (0 < vz tl k)) (g := fun k => e2 (k, vz tl k)) ?_ (.inr rfl) (by cases s10 <;> rfl) ?_ (by rfl) (fun x hx => ?_) fun x hx _ => ?_
      · rw [e_dsrt]
        show ((dictV (.dict (dL (tI tl)))).bind dsrtV) = _
        rw [dictV_dL (scs_tI tl), bind_ok, dsrt_ok (by unfold tI; rw [List.length_map]; omega), keys_tI]
      · rw [(sortI_perm _).length_eq, List.length_map]; omega
      · show evE Φ (.cmp .gt (.dget (.var 6) (.var 10)) (.cst (.int 0))) [V (.list (cs.map .int)), V (.tuple [.int w, .int l]), V (.int h), V (.int ones), V (.int m), V (.int t), DD (tI tl), O ((nI tn).map .int), s8, none, V (.int x)] = _
        rw [e_cmp, dg x hx]; exact cm_gt
      · show evE Φ (.tup [.var 10, .dget (.var 6) (.var 10)]) [V (.list (cs.map .int)), V (.tuple [.int w, .int l]), V (.int h), V (.int ones), V (.int m), V (.int t), DD (tI tl), O ((nI tn).map .int), s8, none, V (.int x)] = _
        rw [e_tup, es_cons, es_cons, dg x hx]; rfl
    have ce : (((sortI (tl.map (·.1))).filter fun k => decide (0 < vz tl k)).map fun k => e2 (k, vz tl k)) = (canD tl).map e2 := by
      unfold canD
      rw [List.map_map]; rfl
    rw [ce] at cp
    refine t_asg_n (p := .tuple ((canD tl).map e2)) (ρ1 := [V (.list (cs.map .int)), V (.tuple [.int w, .int l]), V (.int h), V (.int ones), V (.int m), V (.int t), DD (tI tl), O ((nI tn).map .int), s8, V (.tuple ((canD tl).map e2)), slD s10]) (ev_tuple cp) (nl_e2s _) (by rfl) ?_
    have st : evE Φ (.bi .tuple1 [.bi .sorted1 [.var 7]]) [V (.list (cs.map .int)), V (.tuple [.int w, .int l]), V (.int h), V (.int ones), V (.int m), V (.int t), DD (tI tl), O ((nI tn).map .int), s8, V (.tuple ((canD tl).map e2)), slD s10] = .ok (eil (nI ((sortI (nI tn)).map Int.toNat))) := by
      rw [nI_sort]
      refine ev_tuple (ev_bi1 (x := .list ((nI tn).map .int)) (by rfl) ?_)
      show sortV ((nI tn).map .int) = _
      unfold sortV
      rw [intsP_int]
    refine t_ret (p := e6 ⟨w, l, h, t, canD tl, nI ((sortI (nI tn)).map Int.toNat), []⟩) ?_ ⟨_, (sortI (nI tn)).map Int.toNat, ⟨⟨rfl, rfl, c1, t8, by show (canD tl).length ≤ 200; omega, ?_, fun p hp => ?_, fun u hu => ?_⟩, rfl, rfl, rfl, ?_, fun u hu => (tp u ((mem_sortN _ _).mp hu)).1, ?_, by show (canD tl).length ≤ _; omega⟩, rfl⟩
    · rw [e_tup, es_cons, es_cons, es_cons, es_cons, es_cons, st]; rfl
    · rw [List.length_map, (sortI_perm _).length_eq]; unfold nI; rw [List.length_map]; omega
    · rw [← hm]; exact c2 p hp
    · rw [← hm]; exact (tp u ((mem_sortN _ _).mp hu)).2
    · rw [nI_sort]
      exact sort_lt (List.pairwise_map.mpr (nd.imp fun h e => h (by omega)))
    · rw [List.length_map, (sortI_perm _).length_eq]; unfold nI; rw [List.length_map]; omega
end
section
/-! ### which keys there can be -/
theorem sub_of_up : ∀ {B A : List Int}, A.Pairwise (· < ·) → B.Pairwise (· < ·) → (∀ x, x ∈ A → x ∈ B) → A.Sublist B
  | [], A, _, _, h => by
    cases A with
    | nil => exact List.Sublist.slnil
    | cons a A => cases h a List.mem_cons_self
  | b :: B, [], _, _, _ => List.nil_sublist _
  | b :: B, a :: A, ha, hb, h => by
    obtain ⟨a1, a2⟩ := List.pairwise_cons.mp ha
    obtain ⟨b1, b2⟩ := List.pairwise_cons.mp hb
    by_cases e : a = b
    · subst e
      refine (sub_of_up a2 b2 fun x hx => ?_).cons₂ a
      rcases List.mem_cons.mp (h x (List.mem_cons_of_mem _ hx)) with z | z
      · have := a1 x hx; omega
      · exact z
    · have hab : a ∈ B := (List.mem_cons.mp (h a List.mem_cons_self)).resolve_left e
      have lt := b1 a hab
      refine (sub_of_up ha b2 fun x hx => ?_).cons b
      rcases List.mem_cons.mp (h x hx) with z | z
      · rcases List.mem_cons.mp hx with y | y
        · omega
        · have := a1 x y; omega
      · exact z
/-! ### sets and forms told -/
theorem sSs_intsF (n : Nat) (L : List Int) : sSs n (L.map .int) = true := by
  induction L with
  | nil => cases n <;> rfl
  | cons i L ih =>
    show (sS n (.int i) && sSs n (L.map .int)) = true
    rw [ih]
    cases n <;> rfl
theorem nl_form (fm : List (List Int × Int)) : noList (eform fm) = true := by
  show noLists (fm.map fun p => .tuple [tkP p.1, .int p.2]) = true
  induction fm with
  | nil => rfl
  | cons p fm ih =>
    show ((noLists (p.1.map .int) && (noList (.int p.2) && true)) && noLists (fm.map fun p => .tuple [tkP p.1, .int p.2])) = true
    rw [ih, nl_ints p.1]; rfl
theorem nl_eset (s : Sum6) (T : Int) (fm : List (List Int × Int)) (K : List Nat) : noList (eset s T fm K) = true := by
  show (noList (.tuple [.int s.w, .int s.l]) && (noList (.int s.h) && (noList (.int T) && (noList (eform fm) && (noLists ((nI K).map .int) && true))))) = true
  rw [nl_form, nl_ints]; rfl
/-! ### rests -/
/-! ### the form told is in order -/
/-! ### the greatest bits -/
end
section
/-! ### solutions with any bits but the greatest ones of the ties -/
def solR (r : Nat → Bool) : List Nat → Nat → Nat
  | [], B => B
  | u :: K, B => solR r K (if r u = true then B ^^^ 2 ^ (Nat.log2 u) else B)
theorem solR_off {r : Nat → Bool} {t : Nat} : ∀ (K : List Nat) (B : Nat), (∀ u, u ∈ K → Nat.log2 u < 1000 ∧ t.testBit (Nat.log2 u) = false) → vN t (solR r K B) = vN t B
  | [], _, _ => rfl
  | u :: K, B, h => by
    obtain ⟨h1, h2⟩ := h u List.mem_cons_self
    unfold solR
    rw [solR_off K _ fun x hx => h x (List.mem_cons_of_mem _ hx)]
    split
    · rw [vN_comm, vN_xor, vN_comm _ t, vN_comm _ t, vN_bit h1, if_neg (by rw [h2]; decide)]
      have := vN_lt t B
      omega
    · rfl
theorem solR_on {r : Nat → Bool} {t : Nat} : ∀ (K : List Nat) (B : Nat), (∀ u, u ∈ K → Nat.log2 u < 1000 ∧ 0 < u) → K.Pairwise Apart → t ∈ K → vN t (solR r K B) = (vN t B + if r t = true then 1 else 0) % 2
  | [], _, _, _, h => by cases h
  | u :: K, B, h, ap, ht => by
    obtain ⟨a1, a2⟩ := List.pairwise_cons.mp ap
    unfold solR
    rcases List.mem_cons.mp ht with rfl | ht
    · rw [solR_off K _ fun x hx => ⟨(h x (List.mem_cons_of_mem _ hx)).1, (a1 x hx).2⟩]
      obtain ⟨h1, h2⟩ := h t List.mem_cons_self
      split
      · rw [vN_comm, vN_xor, vN_comm _ t, vN_comm _ t, vN_bit h1, if_pos (log_bit h2)]
      · have := vN_lt t B
        omega
    · rw [solR_on K _ (fun x hx => h x (List.mem_cons_of_mem _ hx)) a2 ht]
      congr 2
      obtain ⟨h1, h2⟩ := h u List.mem_cons_self
      split
      · rw [vN_comm, vN_xor, vN_comm _ t, vN_comm _ t, vN_bit h1, if_neg (by rw [(a1 t ht).1]; decide)]
        have := vN_lt t B
        omega
      · rfl
theorem solR_bit {r : Nat → Bool} {j : Nat} : ∀ (K : List Nat) (B : Nat), (∀ u, u ∈ K → Nat.log2 u ≠ j) → (solR r K B).testBit j = B.testBit j
  | [], _, _ => rfl
  | u :: K, B, h => by
    unfold solR
    rw [solR_bit K _ fun x hx => h x (List.mem_cons_of_mem _ hx)]
    split
    · rw [Nat.testBit_xor, Nat.testBit_two_pow, decide_eq_false (h u List.mem_cons_self), Bool.xor_false]
    · rfl
theorem solR_lt {r : Nat → Bool} {m : Nat} : ∀ (K : List Nat) (B : Nat), B < 2 ^ m → (∀ u, u ∈ K → Nat.log2 u < m) → solR r K B < 2 ^ m
  | [], _, h, _ => h
  | u :: K, B, h, g => by
    unfold solR
    refine solR_lt K _ ?_ fun x hx => g x (List.mem_cons_of_mem _ hx)
    split
    · exact Nat.xor_lt_two_pow h (Nat.pow_lt_pow_right (by decide) (g u List.mem_cons_self))
    · exact h
/-- ties put in order, none the bit that is always 1 -/
structure Leads (m : Nat) (K : List Nat) : Prop where
  rd : Red K
  rg : ∀ t, t ∈ K → 2 ≤ t ∧ t < 2 ^ m
theorem Leads.lg {m : Nat} {K : List Nat} (h : Leads m K) : ∀ u, u ∈ K → 1 ≤ Nat.log2 u ∧ Nat.log2 u < m := fun u hu => by
  obtain ⟨a, b⟩ := h.rg u hu
  exact ⟨(Nat.le_log2 (by omega)).mpr a, (Nat.log2_lt (by omega)).mpr b⟩
theorem free_sol {m : Nat} (hm : m ≤ 999) {K : List Nat} (h : Leads m K) {B0 : Nat} (hb : B0 < 2 ^ m) (odd : B0 % 2 = 1) : ∃ B, B < 2 ^ m ∧ B % 2 = 1 ∧ Zero B K ∧ (∀ j, (∀ u, u ∈ K → Nat.log2 u ≠ j) → B.testBit j = B0.testBit j) ∧ ∀ x, (∀ u, u ∈ K → x.testBit (Nat.log2 u) = false) → vN x B = vN x B0 := by
  have bits : ∀ j, (∀ u, u ∈ K → Nat.log2 u ≠ j) → (solR (fun u => decide (vN u B0 = 1)) K B0).testBit j = B0.testBit j := fun j hj => solR_bit K B0 hj
  refine ⟨solR (fun u => decide (vN u B0 = 1)) K B0, solR_lt K B0 hb fun u hu => (h.lg u hu).2, ?_, fun t ht => ?_, bits, fun x hx => solR_off K B0 fun u hu => ⟨by have := (h.lg u hu).2; omega, hx u hu⟩⟩
  · have e := bits 0 fun u hu => by have := (h.lg u hu).1; omega
    rw [Nat.testBit_zero, Nat.testBit_zero, odd] at e
    exact of_decide_eq_true (e.trans rfl)
  · rw [solR_on K B0 (fun u hu => ⟨by have := (h.lg u hu).2; omega, h.rd.pos u hu⟩) h.rd.ap ht]
    have := vN_lt t B0
    by_cases c : vN t B0 = 1
    · rw [if_pos (decide_eq_true c), c]
    · rw [if_neg (by simpa using c)]; omega
theorem vN_one (x : Nat) : vN x 1 = x % 2 := by
  have := vN_bit (t := x) (j := 0) (by decide)
  rw [Nat.pow_zero, Nat.testBit_zero] at this
  rw [this]
  rcases Nat.mod_two_eq_zero_or_one x with e | e <;> rw [e] <;> rfl
/-- what no solution sees is nothing -/
theorem vanish {m : Nat} (hm : m ≤ 999) (m1 : 1 ≤ m) {K : List Nat} (h : Leads m K) {x : Nat} (hx : x < 2 ^ m) (hl : ∀ u, u ∈ K → x.testBit (Nat.log2 u) = false) (hv : ∀ B, B < 2 ^ m → B % 2 = 1 → Zero B K → vN x B = 0) : x = 0 := by
  rcases Nat.eq_zero_or_pos x with z | z
  · exact z
  exfalso
  have key : ∀ B0, B0 < 2 ^ m → B0 % 2 = 1 → vN x B0 = 0 := fun B0 hb od => by
    obtain ⟨B, b1, b2, b3, b4, b5⟩ := free_sol hm h hb od
    rw [← b5 x hl]
    exact hv B b1 b2 b3
  have o1 := key 1 (Nat.one_lt_two_pow (by omega)) rfl
  rw [vN_one] at o1
  have lt : Nat.log2 x < m := (Nat.log2_lt (by omega)).mpr hx
  have l1 : 1 ≤ Nat.log2 x := (Nat.le_log2 (by omega)).mpr (by rw [Nat.pow_one]; omega)
  have o2 := key (1 ^^^ 2 ^ Nat.log2 x) (Nat.xor_lt_two_pow (Nat.one_lt_two_pow (by omega)) (Nat.pow_lt_pow_right (by decide) lt)) (by
    have h0 : (1 ^^^ 2 ^ Nat.log2 x).testBit 0 = true := by
      rw [Nat.testBit_xor, Nat.testBit_two_pow, decide_eq_false (by omega), Bool.xor_false, Nat.testBit_zero]
      rfl
    rw [Nat.testBit_zero] at h0
    exact of_decide_eq_true h0)
  rw [vN_comm, vN_xor, vN_comm _ x, vN_comm _ x, vN_one, o1, vN_bit (by omega), if_pos (log_bit z)] at o2
  cases o2
theorem wl_top {b u : Nat} (hb : 0 < b) (hu : 0 < u) (h : Nat.log2 u ≠ Nat.log2 b) : Nat.log2 (wlN b u) = Nat.log2 b ∧ 0 < wlN b u := by
  rcases Nat.lt_trichotomy (Nat.log2 u) (Nat.log2 b) with x | x | x
  · exact wl_log hb hu (log_top x)
  · exact absurd x h
  · unfold wlN
    rw [if_neg (by rw [log_top x]; decide)]
    exact ⟨rfl, hb⟩
theorem fold_top {b : Nat} (hb : 0 < b) : ∀ (K : List Nat) (c : Nat), 0 < c → Nat.log2 c = Nat.log2 b → (∀ u, u ∈ K → 0 < u ∧ Nat.log2 u ≠ Nat.log2 b) → 0 < K.foldl wlN c
  | [], _, h, _, _ => h
  | u :: K, c, h, e, g => by
    obtain ⟨g1, g2⟩ := g u List.mem_cons_self
    obtain ⟨a1, a2⟩ := wl_top h g1 (by rw [e]; exact g2)
    exact fold_top hb K _ a2 (a1.trans e) fun x hx => g x (List.mem_cons_of_mem _ hx)
theorem lead_same {m : Nat} (hm : m ≤ 999) (m1 : 1 ≤ m) {K : List Nat} (h : Leads m K) {t : Nat} (t0 : 0 < t) (ht : t < 2 ^ m) (hv : ∀ B, B < 2 ^ m → B % 2 = 1 → Zero B K → vN t B = 0) : ∃ u, u ∈ K ∧ Nat.log2 u = Nat.log2 t := by
  cases Classical.em (∃ u, u ∈ K ∧ Nat.log2 u = Nat.log2 t) with
  | inl e => exact e
  | inr e =>
    exfalso
    have z := fold_top t0 K t t0 rfl fun u hu => ⟨h.rd.pos u hu, fun z => e ⟨u, hu, z⟩⟩
    have := vanish hm m1 h (fold_lt K t ht fun u hu => (h.rg u hu).2) (h.rd.fold t) fun B b1 b2 b3 => by
      rw [fold_v K t b3]
      exact hv B b1 b2 b3
    omega
theorem Red.off {K : List Nat} (h : Red K) {u w : Nat} (hu : u ∈ K) (hw : w ∈ K) (ne : u ≠ w) : u.testBit (Nat.log2 w) = false := by
  have ap := h.ap
  clear h
  induction K with
  | nil => cases hu
  | cons a K ih =>
    obtain ⟨a1, a2⟩ := List.pairwise_cons.mp ap
    rcases List.mem_cons.mp hu with e1 | hu
    · rcases List.mem_cons.mp hw with e2 | hw
      · exact absurd (e1.trans e2.symm) ne
      · rw [e1]; exact (a1 w hw).2
    · rcases List.mem_cons.mp hw with e2 | hw
      · rw [e2]; exact (a1 u hu).1
      · exact ih hu hw a2
theorem same_in {m : Nat} (hm : m ≤ 999) (m1 : 1 ≤ m) {K L : List Nat} (hK : Leads m K) (hL : Leads m L) (h : ∀ B, B < 2 ^ m → B % 2 = 1 → (Zero B K ↔ Zero B L)) : ∀ t, t ∈ K → t ∈ L := fun t ht => by
  obtain ⟨u, hu, lu⟩ := lead_same hm m1 hL (hK.rd.pos t ht) (hK.rg t ht).2 fun B b1 b2 b3 => (h B b1 b2).mpr b3 t ht
  have x0 := vanish hm m1 hL (x := t ^^^ u) (Nat.xor_lt_two_pow (hK.rg t ht).2 (hL.rg u hu).2) (fun w hw => by
    rw [Nat.testBit_xor]
    by_cases e : u = w
    · subst e
      rw [log_bit (hL.rd.pos u hu), lu, log_bit (hK.rd.pos t ht)]; rfl
    · rw [hL.rd.off hu hw e, Bool.xor_false]
      obtain ⟨w', hw', lw⟩ := lead_same hm m1 hK (hL.rd.pos w hw) (hL.rg w hw).2 fun B b1 b2 b3 => (h B b1 b2).mp b3 w hw
      rw [← lw]
      refine hK.rd.off ht hw' fun z => ?_
      subst z
      have := hL.rd.off hu hw e
      rw [← lw, ← lu, log_bit (hL.rd.pos u hu)] at this
      cases this) fun B b1 b2 b3 => by
    rw [vN_xor, (h B b1 b2).mpr b3 t ht, b3 u hu]
  have : t = u := by
    have e : t ^^^ u ^^^ u = t := by rw [Nat.xor_assoc, Nat.xor_self, Nat.xor_zero]
    rw [x0, Nat.zero_xor] at e
    exact e.symm
  exact this ▸ hu
theorem nI_inj {K L : List Nat} (h : nI K = nI L) : K = L := by
  have e : ∀ K : List Nat, (nI K).map Int.toNat = K := fun K => by
    unfold nI
    rw [List.map_map]
    exact (List.map_congr_left fun n _ => Int.toNat_natCast n).trans (List.map_id K)
  rw [← e K, h, e]
theorem same_K {m : Nat} (hm : m ≤ 999) (m1 : 1 ≤ m) {K L : List Nat} (hK : Leads m K) (hL : Leads m L) (uK : (nI K).Pairwise (· < ·)) (uL : (nI L).Pairwise (· < ·)) (h : ∀ B, B < 2 ^ m → B % 2 = 1 → (Zero B K ↔ Zero B L)) : K = L := by
  refine nI_inj (sorted_uniq uK uL fun x => ?_)
  unfold nI
  rw [List.mem_map, List.mem_map]
  exact ⟨fun ⟨n, hn, e⟩ => ⟨n, same_in hm m1 hK hL h n hn, e⟩, fun ⟨n, hn, e⟩ => ⟨n, same_in hm m1 hL hK (fun B b1 b2 => (h B b1 b2).symm) n hn, e⟩⟩
/-! ### forms that tell the same at all settings -/
theorem form_nd {fm : List (List Int × Int)} (f : FormOk fm) : (fm.map (·.1)).Nodup := f.up.imp fun z e => by
  rw [e, strict_ltL.irr] at z; cases z
theorem FormOk.mem {fm : List (List Int × Int)} (f : FormOk fm) (q : List Int × Int) : q ∈ fm ↔ vq fm q.1 = q.2 ∧ q.2 ≠ 0 := by
  constructor
  · intro h
    obtain ⟨_, _, h1, _⟩ := f.key q h
    exact ⟨vq_mem (form_nd f) h, by omega⟩
  · rintro ⟨h1, h2⟩
    by_cases hk : q.1 ∈ fm.map (·.1)
    · obtain ⟨p, hp, e⟩ := List.mem_map.mp hk
      have := vq_mem (form_nd f) hp
      have e2 : p = q := Prod.ext e (by rw [← h1, ← e, this])
      exact e2 ▸ hp
    · exact absurd ((vq_no hk).symm.trans h1).symm h2
theorem FormOk.uniq {a b : List (List Int × Int)} (f : FormOk a) (g : FormOk b) (h : ∀ k, vq a k = vq b k) : a = b := by
  have n1 : a.Nodup := (List.pairwise_map.mp (form_nd f)).imp fun h e => h (by rw [e])
  have n2 : b.Nodup := (List.pairwise_map.mp (form_nd g)).imp fun h e => h (by rw [e])
  have pm : a.Perm b := (List.perm_ext_iff_of_nodup n1 n2).mpr fun q => by rw [f.mem, g.mem, h]
  refine List.Perm.eq_of_pairwise (le := fun x y : List Int × Int => ltL x.1 y.1 = true) (fun x y _ _ h1 h2 => ?_) (List.pairwise_map.mp f.up) (List.pairwise_map.mp g.up) pm
  have := strict_ltL.tr _ _ _ h1 h2
  rw [strict_ltL.irr] at this
  cases this
theorem FormOk.rng {fm : List (List Int × Int)} (f : FormOk fm) (k : List Int) : 0 ≤ vq fm k ∧ vq fm k < 8 := by
  by_cases hk : k ∈ fm.map (·.1)
  · obtain ⟨p, hp, rfl⟩ := List.mem_map.mp hk
    rw [vq_mem (form_nd f) hp]
    obtain ⟨_, _, h1, h2⟩ := f.key p hp
    omega
  · rw [vq_no hk]; omega
theorem sum_out {α : Type} {g : α → Int} : ∀ {U : List α}, (∀ k, k ∈ U → g k = 0) → (U.map g).sum = 0
  | [], _ => rfl
  | k :: U, h => by rw [List.map_cons, List.sum_cons, h k List.mem_cons_self, sum_out fun x hx => h x (List.mem_cons_of_mem _ hx)]; rfl
theorem sQ_in {fm : List (List Int × Int)} (f : FormOk fm) {U : List (List Int)} (nd : U.Nodup) (hU : ∀ k, k ∈ fm.map (·.1) → k ∈ U) (w : List Int → Int) : sQ w fm = (U.map fun k => vq fm k * w k).sum := by
  rw [sQ_keys w fm (form_nd f)]
  have e : (U.map fun k => vq fm k * w k).sum = ((U.filter fun k => decide (k ∈ fm.map (·.1))).map fun k => vq fm k * w k).sum := by
    clear nd hU
    induction U with
    | nil => rfl
    | cons k U ih =>
      rw [List.map_cons, List.sum_cons, ih]
      by_cases c : k ∈ fm.map (·.1)
      · rw [List.filter_cons_of_pos (by simpa using c), List.map_cons, List.sum_cons]
      · rw [List.filter_cons_of_neg (by simpa using c), vq_no c, Int.zero_mul, Int.zero_add]
  rw [e]
  refine sum_perm (List.Perm.map _ ((List.perm_ext_iff_of_nodup (form_nd f) (nd.filter _)).mpr fun k => ?_))
  rw [List.mem_filter, decide_eq_true_eq]
  exact ⟨fun h => ⟨hU k h, h⟩, fun h => h.2⟩
theorem one_only {U : List (List Int)} {g : List Int → Int} {k : List Int} (nd : U.Nodup) (hk : k ∈ U) (h : ∀ p, p ∈ U → p ≠ k → g p % 8 = 0) : ((U.map g).sum - g k) % 8 = 0 := by
  induction U with
  | nil => cases hk
  | cons p U ih =>
    rw [List.nodup_cons] at nd
    rw [List.map_cons, List.sum_cons]
    rcases List.mem_cons.mp hk with rfl | hk
    · have z : (U.map g).sum % 8 = 0 := by
        have : ∀ V : List (List Int), (∀ p, p ∈ V → g p % 8 = 0) → (V.map g).sum % 8 = 0 := fun V hV => by
          induction V with
          | nil => rfl
          | cons q V ih =>
            rw [List.map_cons, List.sum_cons]
            have a := hV q List.mem_cons_self
            have b := ih fun x hx => hV x (List.mem_cons_of_mem _ hx)
            omega
        exact this U fun p hp => h p (List.mem_cons_of_mem _ hp) fun e => nd.1 (e ▸ hp)
      omega
    · have a := ih nd.2 hk fun q hq => h q (List.mem_cons_of_mem _ hq)
      have b := h p List.mem_cons_self fun e => nd.1 (e ▸ hk)
      omega
theorem prod_in {S p : List Int} (h : ∀ b, b ∈ p → b ∈ S) : prodL (oneS S) p = 1 := by
  rw [prod_one, if_pos]
  rw [List.filter_eq_self.mpr fun b hb => decide_eq_true (h b hb)]
theorem prod_out {S p : List Int} (h : ¬ ∀ b, b ∈ p → b ∈ S) : prodL (oneS S) p = 0 := by
  rw [prod_one, if_neg]
  intro e
  refine h fun b hb => ?_
  have := List.filter_eq_self.mp (List.Sublist.eq_of_length List.filter_sublist e) b hb
  exact of_decide_eq_true this
theorem forms_same {a b : List (List Int × Int)} (f : FormOk a) (g : FormOk b) {Ta Tb : Int} (ra : 0 ≤ Ta ∧ Ta < 8) (rb : 0 ≤ Tb ∧ Tb < 8) (h : ∀ S : List Int, (S = [] ∨ S ∈ a.map (·.1) ∨ S ∈ b.map (·.1)) → (Ta + sQ (prodL (oneS S)) a - (Tb + sQ (prodL (oneS S)) b)) % 8 = 0) : Ta = Tb ∧ a = b := by
  obtain ⟨U, hU⟩ : ∃ U, U = a.map (·.1) ++ (b.map (·.1)).filter fun k => decide (k ∉ a.map (·.1)) := ⟨_, rfl⟩
  have nd : U.Nodup := by
    rw [hU]
    refine List.nodup_append.mpr ⟨form_nd f, (form_nd g).filter _, fun x hx y hy e => ?_⟩
    have := of_decide_eq_true (List.mem_filter.mp hy).2
    exact this (e ▸ hx)
  have ua : ∀ k, k ∈ a.map (·.1) → k ∈ U := fun k hk => by rw [hU]; exact List.mem_append_left _ hk
  have ub : ∀ k, k ∈ b.map (·.1) → k ∈ U := fun k hk => by
    rw [hU]
    by_cases c : k ∈ a.map (·.1)
    · exact List.mem_append_left _ c
    · exact List.mem_append_right _ (List.mem_filter.mpr ⟨hk, decide_eq_true c⟩)
  have uu : ∀ k, k ∈ U → (k ∈ a.map (·.1) ∨ k ∈ b.map (·.1)) := fun k hk => by
    rw [hU] at hk
    exact (List.mem_append.mp hk).imp id fun z => (List.mem_filter.mp z).1
  have ky : ∀ k, k ∈ U → keyK k = true ∧ k.Pairwise (· < ·) := fun k hk => by
    rcases uu k hk with z | z
    · obtain ⟨p, hp, rfl⟩ := List.mem_map.mp z
      exact ⟨(f.key p hp).1, (f.key p hp).2.1⟩
    · obtain ⟨p, hp, rfl⟩ := List.mem_map.mp z
      exact ⟨(g.key p hp).1, (g.key p hp).2.1⟩
  have T0 : Ta = Tb := by
    have e := h [] (.inl rfl)
    rw [sQ_in f nd ua, sQ_in g nd ub] at e
    have nil0 : ∀ k, k ∈ U → prodL (oneS []) k = 0 := fun k hk => prod_out fun z => by
      have := key_len (ky k hk).1
      cases k with
      | nil => rw [List.length_nil] at this; omega
      | cons x k => cases z x List.mem_cons_self
    rw [sum_out fun k hk => by rw [nil0 k hk, Int.mul_zero], sum_out fun k hk => by rw [nil0 k hk, Int.mul_zero]] at e
    omega
  refine ⟨T0, f.uniq g ?_⟩
  have key : ∀ n k, k ∈ U → k.length ≤ n → vq a k = vq b k := fun n => by
    induction n with
    | zero =>
      intro k hk hl
      have := key_len (ky k hk).1
      omega
    | succ n ih =>
      intro k hk hl
      have e := h k ((uu k hk).elim (fun z => .inr (.inl z)) fun z => .inr (.inr z))
      rw [sQ_in f nd ua, sQ_in g nd ub] at e
      have e2 : ((U.map fun p => (vq a p - vq b p) * prodL (oneS k) p).sum - (vq a k - vq b k) * prodL (oneS k) k) % 8 = 0 := one_only (g := fun p => (vq a p - vq b p) * prodL (oneS k) p) nd hk fun p hp ne => by
        show (vq a p - vq b p) * prodL (oneS k) p % 8 = 0
        by_cases c : ∀ x, x ∈ p → x ∈ k
        · have sl := sub_of_up (ky p hp).2 (ky k hk).2 c
          have le := sl.length_le
          have lt : p.length < k.length := by
            rcases Nat.lt_or_ge p.length k.length with z | z
            · exact z
            · exact absurd (sl.eq_of_length (by omega)) ne
          rw [ih p hp (by omega), Int.sub_self, Int.zero_mul]; rfl
        · rw [prod_out c, Int.mul_zero]; rfl
      rw [prod_in fun x hx => hx, Int.mul_one] at e2
      have sp : ∀ V : List (List Int), (V.map fun p => (vq a p - vq b p) * prodL (oneS k) p).sum = (V.map fun p => vq a p * prodL (oneS k) p).sum - (V.map fun p => vq b p * prodL (oneS k) p).sum := fun V => by
        induction V with
        | nil => rfl
        | cons p V ih =>
          rw [List.map_cons, List.sum_cons, List.map_cons, List.sum_cons, List.map_cons, List.sum_cons, ih, Int.sub_mul]
          omega
      rw [sp] at e2
      have r1 := f.rng k
      have r2 := g.rng k
      omega
  intro k
  by_cases hk : k ∈ U
  · exact key _ k hk (Nat.le_refl _)
  · rw [vq_no fun z => hk (ua k z), vq_no fun z => hk (ub k z)]
/-! ### settled forms are one's own -/
def setN : List Int → Nat
  | [] => 1
  | b :: k => setN k ||| 2 ^ b.toNat
theorem setN_bit : ∀ (k : List Int) (j : Nat), (setN k).testBit j = decide (j = 0 ∨ ∃ b, b ∈ k ∧ b.toNat = j)
  | [], j => by
    show (2 ^ 0 : Nat).testBit j = _
    rw [Nat.testBit_two_pow]
    refine decide_eq_decide.mpr ⟨fun z => .inl z.symm, fun z => ?_⟩
    rcases z with z | ⟨b, hb, _⟩
    · exact z.symm
    · cases hb
  | b :: k, j => by
    show (setN k ||| 2 ^ b.toNat).testBit j = _
    rw [Nat.testBit_or, setN_bit k j, Nat.testBit_two_pow, ← Bool.decide_or]
    refine decide_eq_decide.mpr ⟨fun z => ?_, fun z => ?_⟩
    · rcases z with (z | ⟨c, hc, e⟩) | z
      · exact .inl z
      · exact .inr ⟨c, List.mem_cons_of_mem _ hc, e⟩
      · exact .inr ⟨b, List.mem_cons_self, z⟩
    · rcases z with z | ⟨c, hc, e⟩
      · exact .inl (.inl z)
      · rcases List.mem_cons.mp hc with rfl | hc
        · exact .inr e
        · exact .inl (.inr ⟨c, hc, e⟩)
theorem prodL_congr {c d : Int → Int} : ∀ {p : List Int}, (∀ b, b ∈ p → c b = d b) → prodL c p = prodL d p
  | [], _ => rfl
  | x :: p, h => by
    show c x * prodL c p = d x * prodL d p
    rw [h x List.mem_cons_self, prodL_congr fun b hb => h b (List.mem_cons_of_mem _ hb)]
theorem sQ_congr {v w : List Int → Int} {l : List (List Int × Int)} (h : ∀ p, p ∈ l → v p.1 = w p.1) : sQ v l = sQ w l := by
  unfold sQ
  rw [List.map_congr_left fun p hp => by rw [h p hp]]
structure FIn (m : Nat) (K : List Nat) (fm : List (List Int × Int)) : Prop where
  f : FormOk fm
  bit : ∀ p, p ∈ fm → ∀ b, b ∈ p.1 → 1 ≤ b ∧ b < m
  lead : ∀ p, p ∈ fm → ∀ t, t ∈ K → ¬ ((Nat.log2 t : Nat) : Int) ∈ p.1
theorem form_same {m : Nat} (hm : m ≤ 999) (m1 : 1 ≤ m) {K : List Nat} (hK : Leads m K) {a b : List (List Int × Int)} (f : FIn m K a) (g : FIn m K b) {Ta Tb : Int} (ra : 0 ≤ Ta ∧ Ta < 8) (rb : 0 ≤ Tb ∧ Tb < 8) (h : ∀ B, B < 2 ^ m → B % 2 = 1 → Zero B K → (Ta + sQ (prodL (oneB B)) a - (Tb + sQ (prodL (oneB B)) b)) % 8 = 0) : Ta = Tb ∧ a = b := by
  refine forms_same f.f g.f ra rb fun S hS => ?_
  have ok : ∀ b, b ∈ S → (1 ≤ b ∧ b < m) ∧ ∀ t, t ∈ K → ((Nat.log2 t : Nat) : Int) ≠ b := fun x hx => by
    rcases hS with rfl | z | z
    · cases hx
    · obtain ⟨p, hp, rfl⟩ := List.mem_map.mp z
      exact ⟨f.bit p hp x hx, fun t ht e => f.lead p hp t ht (e ▸ hx)⟩
    · obtain ⟨p, hp, rfl⟩ := List.mem_map.mp z
      exact ⟨g.bit p hp x hx, fun t ht e => g.lead p hp t ht (e ▸ hx)⟩
  have lt : setN S < 2 ^ m := Nat.lt_pow_two_of_testBit _ fun i hi => by
    rw [setN_bit]
    refine decide_eq_false fun z => ?_
    rcases z with z | ⟨c, hc, e⟩
    · omega
    · have := (ok c hc).1
      omega
  have od : setN S % 2 = 1 := by
    have e := setN_bit S 0
    rw [Nat.testBit_zero] at e
    exact of_decide_eq_true (e.trans (decide_eq_true (.inl rfl)))
  obtain ⟨B, b1, b2, b3, b4, _⟩ := free_sol hm hK lt od
  have one : ∀ x : Int, 1 ≤ x → (∀ t, t ∈ K → ((Nat.log2 t : Nat) : Int) ≠ x) → oneB B x = oneS S x := fun x x1 xl => by
    obtain ⟨n, rfl⟩ := Int.eq_ofNat_of_zero_le (show 0 ≤ x by omega)
    have e := b4 n fun u hu z => xl u hu (by rw [z])
    rw [setN_bit] at e
    unfold oneB oneS
    rw [bitI_N, e]
    by_cases c : (n : Int) ∈ S
    · rw [if_pos c, if_pos (decide_eq_true (.inr ⟨_, c, Int.toNat_natCast n⟩))]
    · rw [if_neg c, if_neg]
      intro z
      rcases of_decide_eq_true z with z | ⟨y, hy, e⟩
      · omega
      · have := (ok y hy).1
        have : y = n := by omega
        exact c (this ▸ hy)
  have := h B b1 b2 b3
  rw [sQ_congr (w := prodL (oneS S)) (l := a) fun p hp => prodL_congr fun x hx => one x (f.bit p hp x hx).1 fun t ht e => f.lead p hp t ht (e ▸ hx), sQ_congr (w := prodL (oneS S)) (l := b) fun p hp => prodL_congr fun x hx => one x (g.bit p hp x hx).1 fun t ht e => g.lead p hp t ht (e ▸ hx)] at this
  exact this
/-- two sums with the same numbers -/
def SameN (m : Nat) (s s' : Sum6) (tn tn' : List Nat) (e : Int) : Prop := ∀ B, B < 2 ^ m → B % 2 = 1 → ((Zero B tn ↔ Zero B tn') ∧ (Zero B tn → (s.t + sW (odv · B) s.ps + e - (s'.t + sW (odv · B) s'.ps)) % 8 = 0))
theorem kp_leads {m : Nat} {s : Sum6} {tn : List Nat} (h : SIn m s tn) (n1 : 1 ∉ kpN tn) : Leads m (kpN tn) := ⟨kp_red tn, fun t ht => ⟨by
  have a := (kp_red tn).pos t ht
  have : t ≠ 1 := fun z => n1 (z ▸ ht)
  omega, kp_lt h.tm t ht⟩⟩
/-- no solution where 1 is a tie, and else one -/
theorem one_iff {m : Nat} (hm : m ≤ 999) (m1 : 1 ≤ m) {s : Sum6} {tn : List Nat} (h : SIn m s tn) : 1 ∈ kpN tn ↔ ¬ ∃ B, B < 2 ^ m ∧ B % 2 = 1 ∧ Zero B tn := by
  constructor
  · rintro a ⟨B, b1, b2, b3⟩
    have z := (kp_zero tn B).mpr b3 1 a
    rw [one_no b2] at z
    cases z
  · intro a
    by_cases c : 1 ∈ kpN tn
    · exact c
    · obtain ⟨B, b1, b2, b3, _⟩ := free_sol hm (kp_leads h c) (B0 := 1) (Nat.one_lt_two_pow (by omega)) rfl
      exact absurd ⟨B, b1, b2, (kp_zero tn B).mp b3⟩ a
theorem told_same {m : Nat} (hm : m ≤ 20) (m1 : 1 ≤ m) {s s' : Sum6} {tn tn' : List Nat} {e : Int} (h : SIn m s tn) (h' : SIn m s' tn') (sm : SameN m s s' tn tn' e) : (1 ∈ kpN tn ↔ 1 ∈ kpN tn') ∧ (1 ∉ kpN tn → kpN tn = kpN tn' ∧ ∀ T T' fm fm', Told m s (kpN tn) T fm → Told m s' (kpN tn') T' fm' → T' = (T + e) % 8 ∧ fm' = fm) := by
  refine ⟨?_, fun n1 => ?_⟩
  · rw [one_iff (by omega) m1 h, one_iff (by omega) m1 h']
    exact not_congr ⟨fun ⟨B, b1, b2, b3⟩ => ⟨B, b1, b2, (sm B b1 b2).1.mp b3⟩, fun ⟨B, b1, b2, b3⟩ => ⟨B, b1, b2, (sm B b1 b2).1.mpr b3⟩⟩
  · have n1' : 1 ∉ kpN tn' := by
      intro z
      refine n1 ?_
      rw [one_iff (by omega) m1 h'] at z
      rw [one_iff (by omega) m1 h]
      exact fun ⟨B, b1, b2, b3⟩ => z ⟨B, b1, b2, (sm B b1 b2).1.mp b3⟩
    have L := kp_leads h n1
    have eK : kpN tn = kpN tn' := same_K (by omega) m1 L (kp_leads h' n1') (kp_up tn) (kp_up tn') fun B b1 b2 => by rw [kp_zero, kp_zero]; exact (sm B b1 b2).1
    refine ⟨eK, fun T T' fm fm' t t' => ?_⟩
    obtain ⟨a1, a2⟩ := form_same (by omega) m1 L (a := fm') (b := fm) ⟨t'.f, t'.bit, by rw [eK]; exact t'.lead⟩ ⟨t.f, t.bit, t.lead⟩ (Ta := T') (Tb := (T + e) % 8) t'.t0 ⟨Int.emod_nonneg _ (by decide), Int.emod_lt_of_pos _ (by decide)⟩ fun B b1 b2 b3 => by
      have z := (sm B b1 b2).2 ((kp_zero tn B).mp b3)
      have v := t.val B b2 b3
      have v' := t'.val B b2 (eK ▸ b3)
      generalize sQ (prodL (oneB B)) fm = x1 at *
      generalize sQ (prodL (oneB B)) fm' = x2 at *
      generalize sW (odv · (B : Int)) s.ps = x3 at *
      generalize sW (odv · (B : Int)) s'.ps = x4 at *
      omega
    exact ⟨a1, a2⟩
end
section
def c__law_tied_k55 : List S := [.asg (.nm 2) (.bi .list1 [.var 0]), .ife (.cmp .gt (.bi .len [.var 2]) (.cst (.int 1))) [.asg (.nm 3) (.bin .mod (.var 1) (.bi .len [.var 2])), .asg (.nm 4) (.bin .mod (.bin .add (.bin .add (.var 3) (.cst (.int 1))) (.bin .mod (.bin .fdiv (.var 1) (.cst (.int 4))) (.bin .sub (.bi .len [.var 2]) (.cst (.int 1))))) (.bi .len [.var 2])), .sub 2 (.var 3) (.bin .bxor (.idx (.var 2) (.var 3)) (.idx (.var 2) (.var 4)))] [], .ret false (.bi .tuple1 [.sset (.var 2)])]
def f__law_tied_k55 (Φ : Nat → List PyData → R PyData) : List PyData → R PyData := fn Φ 2 5 c__law_tied_k55
def c__law_exchanged : List S := [.dnew 3, .asg (.nm 4) (.idx (.var 0) (.cst (.int 2))), .loop (.tp [6, 7]) .seq [.idx (.var 0) (.cst (.int 3))] [.dput 3 (.var 6) (.var 7)], .ife (.conj (.cmp .eq (.bin .mod (.var 1) (.cst (.int 2))) (.cst (.int 0))) (.conj (.cmp .gt (.bi .len [.idx (.var 0) (.cst (.int 4))]) (.cst (.int 0))) (.cmp .gt (.bi .len [.idx (.var 0) (.cst (.int 3))]) (.cst (.int 0))))) [.asg (.nm 8) (.idx (.idx (.var 0) (.cst (.int 3))) (.bin .mod (.bin .fdiv (.var 1) (.cst (.int 2))) (.bi .len [.idx (.var 0) (.cst (.int 3))]))), .asg (.nm 9) (.idx (.idx (.var 0) (.cst (.int 4))) (.bin .mod (.bin .fdiv (.var 1) (.cst (.int 26))) (.bi .len [.idx (.var 0) (.cst (.int 4))]))), .crfv 4 3 1001 (.var 4) [.idx (.var 8) (.cst (.int 0)), .neg (.idx (.var 8) (.cst (.int 1)))], .crfv 4 3 1001 (.var 4) [.bin .bxor (.idx (.var 8) (.cst (.int 0))) (.var 9), .idx (.var 8) (.cst (.int 1))]] [.asg (.nm 10) (.bin .mod (.bin .fdiv (.var 1) (.cst (.int 2))) (.bin .shl (.cst (.int 1)) (.var 2))), .asg (.nm 11) (.bin .mod (.bin .fdiv (.var 1) (.cst (.int 514))) (.bin .shl (.cst (.int 1)) (.var 2))), .loop (.nm 6) .seq [.lst [.var 10, .var 11, .bin .bxor (.var 10) (.var 11)]] [.crfv 4 3 1001 (.var 4) [.var 6, .cst (.int 4)]]], .asg (.nm 5) (.bi .tuple1 [.comp [6] (.nm 6) .seq [.dsrt (.var 3)] (some (.cmp .gt (.dget (.var 3) (.var 6)) (.cst (.int 0)))) (.tup [.var 6, .dget (.var 3) (.var 6)])]), .ret false (.tup [.idx (.var 0) (.cst (.int 0)), .idx (.var 0) (.cst (.int 1)), .var 4, .var 5, .idx (.var 0) (.cst (.int 4)), .tup []])]
def f__law_exchanged (Φ : Nat → List PyData → R PyData) : List PyData → R PyData := fn Φ 3 12 c__law_exchanged
def c__law_shifted : List S := [.ife (.cmp .isn (.var 0) (.cst (.none))) [.ret false (.cst (.none))] [], .ret false (.tup [.idx (.var 0) (.cst (.int 0)), .idx (.var 0) (.cst (.int 1)), .bin .mod (.bin .add (.idx (.var 0) (.cst (.int 2))) (.var 1)) (.cst (.int 8)), .idx (.var 0) (.cst (.int 3)), .idx (.var 0) (.cst (.int 4))])]
def f__law_shifted (Φ : Nat → List PyData → R PyData) : List PyData → R PyData := fn Φ 2 2 c__law_shifted
/-! ### what a dict's turns come to -/
theorem addD_v0 {m : Nat} {tl : List (Int × Int)} (h : CD m tl) {k : Int} (hk : ¬ 0 < k) : vz tl k = 0 := vz_no fun z => by
  obtain ⟨q, hq, e⟩ := List.mem_map.mp z
  have := (h.pp q hq).1
  omega
theorem add_val {m : Nat} {tl : List (Int × Int)} (h : CD m tl) (t e : Int) {b : Nat} (hb : b < 2 ^ m) {B : Nat} (od : B % 2 = 1) : (adT t b e + sW (odv · B) (canD (addD tl b e)) - (t + sW (odv · B) (canD tl) + e * odv b B)) % 8 = 0 := by
  have bi : ((b : Int)) < 2 ^ m := by rw [← pow_int]; exact Int.ofNat_lt.mpr hb
  obtain ⟨q1, q2, q3, q4⟩ := canD_ok h
  have h2 := addD_ok h (Int.natCast_nonneg b) bi e
  obtain ⟨u1, u2, u3, u4⟩ := canD_ok h2
  refine step_sumF (T := t) (qs := canD tl) (us := canD (addD tl b e)) q1 u1 (fun k => ?_) (Int.natCast_nonneg _) (Int.natCast_nonneg _) (by omega) (by rw [Int.sub_self]; rfl)
  rw [u4, q4]
  by_cases k0 : 0 < k
  · rw [addD_v tl b e k0]
    by_cases c : k = evb b
    · rw [if_pos c, if_pos ⟨c, k0⟩]
    · rw [if_neg c, if_neg fun z => c z.1]
  · rw [if_neg fun z => k0 z.2, addD_v0 h2 k0, addD_v0 h k0]
theorem canon_cd {m : Nat} {ps : List (Int × Int)} (c : Canon ps) (h : ∀ p, p ∈ ps → p.1 < 2 ^ m) : CD m ps ∧ canD ps = ps := by
  have cd : CD m ps := ⟨c.nd, fun q hq => by
    have := c.pp q hq
    exact ⟨this.1, this.2.1, by omega, by omega, h q hq⟩⟩
  obtain ⟨a1, _, _, a4⟩ := canD_ok cd
  exact ⟨cd, a1.uniq c a4⟩
theorem put_take {ps : List (Int × Int)} (c : Canon ps) {i : Nat} {p : Int × Int} (h : ps[i]? = some p) : putZ (ps.take i) p.1 p.2 = ps.take (i + 1) := by
  unfold putZ
  rw [any_key, if_neg, List.take_add_one, h]
  · rfl
  · rw [decide_eq_true_eq]
    intro z
    obtain ⟨q, hq, e⟩ := List.mem_map.mp z
    obtain ⟨j, hj, hj2⟩ := List.mem_take_iff_getElem.mp hq
    have hil := get_lt h
    have lt := List.pairwise_iff_getElem.mp c.po j i (by omega) hil (by omega)
    have e3 : ps[i] = p := Option.some.inj ((List.getElem?_eq_getElem hil).symm.trans h)
    rw [hj2, e3, e] at lt
    exact Int.lt_irrefl _ lt
/-! ### a tie put into another -/
theorem zero_set {B : Nat} {tn : List Nat} {a o : Nat} (ha : a < tn.length) (ho : o < tn.length) (ne : a ≠ o) : Zero B (tn.set a (tn[a] ^^^ tn[o])) ↔ Zero B tn := by
  constructor
  · intro h
    have vo : vN tn[o] B = 0 := h _ (by
      refine List.mem_iff_getElem.mpr ⟨o, by rw [List.length_set]; exact ho, ?_⟩
      rw [List.getElem_set_ne ne])
    have va : vN (tn[a] ^^^ tn[o]) B = 0 := h _ (List.mem_iff_getElem.mpr ⟨a, by rw [List.length_set]; exact ha, List.getElem_set_self _⟩)
    rw [vN_xor, vo] at va
    have v1 := vN_lt tn[a] B
    intro t ht
    obtain ⟨i, hi, rfl⟩ := List.mem_iff_getElem.mp ht
    by_cases e : i = a
    · subst e; omega
    · exact h _ (List.mem_iff_getElem.mpr ⟨i, by rw [List.length_set]; exact hi, by rw [List.getElem_set_ne fun z => e z.symm]⟩)
  · intro h t ht
    rcases List.mem_or_eq_of_mem_set ht with z | z
    · exact h t z
    · rw [z, vN_xor, h _ (List.getElem_mem _), h _ (List.getElem_mem _)]
def Sp_tied55 (F : List PyData → R PyData) : Prop := ∀ (tn : List Nat) (c : Int), tn.length < 60 → ∃ tn', tn'.length ≤ tn.length ∧ (∀ B, Zero B tn ↔ Zero B tn') ∧ (∀ m, (∀ t, t ∈ tn → t < 2 ^ m) → ∀ t, t ∈ tn' → t < 2 ^ m) ∧ F [.tuple ((nI tn).map .int), .int c] = .ok (.tuple ((nI tn').map .int))
theorem s_tied55 (Φ : Nat → List PyData → R PyData) : Sp_tied55 (f__law_tied_k55 Φ) := by
  intro tn c tl
  suffices hh : T (evSs Φ 1000000 c__law_tied_k55 (startP 5 [.tuple ((nI tn).map .int), .int c])) (fun r => ∃ tn', tn'.length ≤ tn.length ∧ (∀ B, Zero B tn ↔ Zero B tn') ∧ (∀ m, (∀ t, t ∈ tn → t < 2 ^ m) → ∀ t, t ∈ tn' → t < 2 ^ m) ∧ endV r = .ok (.tuple ((nI tn').map .int))) by
    obtain ⟨a, b1, b2, b3, b4⟩ := hh
    exact ⟨a, b1, b2, b3, f_T rfl b4⟩
  unfold c__law_tied_k55
  one_sign
  refine t_asg_l (ps := (nI tn).map .int) (ρ1 := [V (.tuple ((nI tn).map .int)), V (.int c), O ((nI tn).map .int), none, none]) (by rfl) (by rfl) ?_
  have ln : ∀ ρ : PEnv, ρ[2]? = some (O ((nI tn).map .int)) → evE Φ (.bi .len [.var 2]) ρ = .ok (.int tn.length) := fun ρ h => by
    rw [show (.int tn.length : PyData) = .int (((nI tn).map PyData.int).length : Nat) by unfold nI; rw [List.length_map, List.length_map]]
    exact ev_len (by rw [e_var, h]; rfl)
  refine t_ifj (fun ρ => ∃ (mn : List Nat) (s3 s4 : Sl), ρ = [V (.tuple ((nI tn).map .int)), V (.int c), O ((nI mn).map .int), s3, s4] ∧ mn.length = tn.length ∧ (∀ B, Zero B tn ↔ Zero B mn) ∧ (∀ m, (∀ t, t ∈ tn → t < 2 ^ m) → ∀ t, t ∈ mn → t < 2 ^ m)) (t := decide (1 < (tn.length : Int))) (by rw [e_cmp, ln _ rfl]; exact cm_gt) (fun h => ?_) (fun h => t_nil (nxt ⟨tn, none, none, rfl, rfl, fun B => Iff.rfl, fun m h => h⟩)) ?_
  · have n2 : 1 < tn.length := by have := of_decide_eq_true h; omega
    obtain ⟨n, hn⟩ : ∃ n, n = tn.length := ⟨_, rfl⟩
    have np : (0 : Int) < (n : Int) := by omega
    obtain ⟨a, ha⟩ : ∃ a : Nat, c % (n : Int) = a := ⟨(c % (n : Int)).toNat, (Int.toNat_of_nonneg (Int.emod_nonneg _ (by omega))).symm⟩
    have an : a < n := by have := Int.emod_lt_of_pos c np; omega
    refine t_asg_n (p := .int a) (ρ1 := [V (.tuple ((nI tn).map .int)), V (.int c), O ((nI tn).map .int), V (.int a), none]) ?_ rfl (by rfl) ?_
    · rw [e_bin, ln _ rfl, ← hn, ← ha]
      exact mdD c n np
    obtain ⟨r, hr⟩ : ∃ r : Nat, c / 4 % ((n : Int) - 1) = r := ⟨(c / 4 % ((n : Int) - 1)).toNat, (Int.toNat_of_nonneg (Int.emod_nonneg _ (by omega))).symm⟩
    have rn : r < n - 1 := by have := Int.emod_lt_of_pos (c / 4) (show (0 : Int) < (n : Int) - 1 by omega); omega
    obtain ⟨o, ho⟩ : ∃ o : Nat, o = (a + 1 + r) % n := ⟨_, rfl⟩
    have on : o < n := by rw [ho]; exact Nat.mod_lt _ (by omega)
    have ne : a ≠ o := by
      by_cases c : a + 1 + r < n
      · rw [ho, Nat.mod_eq_of_lt c]; omega
      · have : (a + 1 + r) % n = a + 1 + r - n := by rw [Nat.mod_eq_sub_mod (by omega), Nat.mod_eq_of_lt (by omega)]
        rw [ho, this]; omega
    refine t_asg_n (p := .int o) (ρ1 := [V (.tuple ((nI tn).map .int)), V (.int c), O ((nI tn).map .int), V (.int a), V (.int o)]) ?_ rfl (by rfl) ?_
    · have e4 : evE Φ (.bin .fdiv (.var 1) (.cst (.int 4))) [V (.tuple ((nI tn).map .int)), V (.int c), O ((nI tn).map .int), V (.int a), none] = .ok (.int (c / 4)) := fdD c 4 (by decide) (by decide)
      have e1 : evE Φ (.bin .sub (.bi .len [.var 2]) (.cst (.int 1))) [V (.tuple ((nI tn).map .int)), V (.int c), O ((nI tn).map .int), V (.int a), none] = .ok (.int ((n : Int) - 1)) := by
        rw [e_bin, ln _ rfl, ← hn]; rfl
      have er : evE Φ (.bin .mod (.bin .fdiv (.var 1) (.cst (.int 4))) (.bin .sub (.bi .len [.var 2]) (.cst (.int 1)))) [V (.tuple ((nI tn).map .int)), V (.int c), O ((nI tn).map .int), V (.int a), none] = .ok (.int r) := by
        rw [e_bin, e4, bind_ok, e1, ← hr]
        exact mdD (c / 4) ((n : Int) - 1) (by omega)
      have es : evE Φ (.bin .add (.bin .add (.var 3) (.cst (.int 1))) (.bin .mod (.bin .fdiv (.var 1) (.cst (.int 4))) (.bin .sub (.bi .len [.var 2]) (.cst (.int 1))))) [V (.tuple ((nI tn).map .int)), V (.int c), O ((nI tn).map .int), V (.int a), none] = .ok (.int ((a + 1 + r : Nat) : Int)) := by
        rw [e_bin, er]
        show R.ok (PyData.int ((a : Int) + 1 + r)) = _
        congr 2
      rw [e_bin, es, bind_ok, ln _ rfl, ← hn, ho]
      refine (mdD ((a + 1 + r : Nat) : Int) n np).trans ?_
      rw [Int.natCast_emod]
    rw [hn] at an on
    have ix : ∀ (ρ : PEnv) (v k : Nat) (hk : k < tn.length), ρ[2]? = some (O ((nI tn).map .int)) → ρ[v]? = some (V (.int k)) → evE Φ (.idx (.var 2) (.var v)) ρ = .ok (.int (tn[k] : Nat)) := fun ρ v k hk h1 h2 => by
      rw [e_idx, e_var, h1, e_var, h2]
      show idxV (.list ((nI tn).map .int)) (.int k) = _
      rw [ix_l, at_n (by unfold nI; rw [List.length_map, List.length_map]; exact hk)]
      unfold nI
      rw [List.getElem_map, List.getElem_map]; rfl
    refine t_sub (k := a) (j := a) (p := .int ((tn[a] ^^^ tn[o] : Nat) : Int)) (xs := (nI tn).map .int) (ρ1 := [V (.tuple ((nI tn).map .int)), V (.int c), O ((nI (tn.set a (tn[a] ^^^ tn[o]))).map .int), V (.int a), V (.int o)]) ?_ (by rfl) (by rfl) (ixN_n (by unfold nI; rw [List.length_map, List.length_map]; exact an)) rfl ?_ (t_nil (nxt ⟨tn.set a (tn[a] ^^^ tn[o]), _, _, rfl, List.length_set, fun B => (zero_set an on ne).symm, fun m hm t ht => ?_⟩))
    · rw [e_bin, ix _ 3 a an rfl rfl, bind_ok, ix _ 4 o on rfl rfl]
      show R.ok (PyData.int (Builtin.bitXor ((tn[a] : Nat) : Int) ((tn[o] : Nat) : Int))) = _
      rw [bxor_n]
    · unfold nI
      rw [List.map_set, List.map_set]; rfl
    · rcases List.mem_or_eq_of_mem_set ht with z | z
      · exact hm t z
      · rw [z]
        exact Nat.xor_lt_two_pow (hm _ (List.getElem_mem _)) (hm _ (List.getElem_mem _))
  rintro ρ ⟨mn, s3, s4, rfl, ml, mz, mt⟩
  have nS : nI ((ssetG ltI (nI mn)).map Int.toNat) = ssetG ltI (nI mn) := by
    unfold nI
    rw [List.map_map]
    refine (List.map_congr_left fun x hx => ?_).trans (List.map_id _)
    obtain ⟨n, _, rfl⟩ := List.mem_map.mp ((ssetG_mem strict_ltI x _).mp hx)
    rfl
  have mem : ∀ t, t ∈ (ssetG ltI (nI mn)).map Int.toNat ↔ t ∈ mn := fun t => by
    rw [List.mem_map]
    constructor
    · rintro ⟨x, hx, rfl⟩
      obtain ⟨n, hn, rfl⟩ := List.mem_map.mp ((ssetG_mem strict_ltI x _).mp hx)
      exact hn
    · intro h
      exact ⟨t, (ssetG_mem strict_ltI _ _).mpr (List.mem_map.mpr ⟨t, h, rfl⟩), rfl⟩
  refine t_ret (p := .tuple ((nI ((ssetG ltI (nI mn)).map Int.toNat)).map .int)) ?_ ⟨(ssetG ltI (nI mn)).map Int.toNat, ?_, fun B => (mz B).trans ⟨fun z t ht => z t ((mem t).mp ht), fun z t ht => z t ((mem t).mpr ht)⟩, fun m hm t ht => mt m hm t ((mem t).mp ht), rfl⟩
  · rw [nS]
    refine ev_tuple ?_
    rw [e_sset]
    show (match intsP ((nI mn).map .int) with
      | some ns => guardR (decide (ns.length < 64)) (R.ok (PyData.list ((ssetG ltI ns).map .int)))
      | none => _) = _
    rw [intsP_int]
    show guardR (decide ((nI mn).length < 64)) _ = _
    rw [decide_eq_true (show (nI mn).length < 64 by unfold nI; rw [List.length_map]; omega)]; rfl
  · rw [List.length_map, ← ml]
    have := ssetG_len ltI (nI mn)
    unfold nI at this
    rw [List.length_map] at this
    exact this
/-! ### turns exchanged -/
def Sp_exch55 (F : List PyData → R PyData) : Prop := ∀ (m : Nat) (s : Sum6) (tn : List Nat) (c : Int), m ≤ 20 → SIn m s tn → s.ps.length ≤ 197 → ∃ s', SIn m s' tn ∧ s'.ps.length ≤ s.ps.length + 3 ∧ s'.w = s.w ∧ s'.l = s.l ∧ s'.h = s.h ∧ SameN m s s' tn tn 0 ∧ F [e6 s, .int c, .int m] = .ok (e6 s')
theorem xor_odd (a b B : Nat) : odv ((a ^^^ b : Nat) : Int) B = (odv a B + odv b B) % 2 := by
  have := odv_xor (a := (a : Int)) (b := (b : Int)) (Int.natCast_nonneg _) (Int.natCast_nonneg _) (B : Int)
  rw [bxor_n] at this
  exact this
theorem s_exch55 (Φ : Nat → List PyData → R PyData) (h1 : Sp_ladded (Φ 1001)) : Sp_exch55 (f__law_exchanged Φ) := by
  intro m s tn c m20 si pl3
  obtain ⟨w, l, h, t, ps, ts, hd⟩ := s
  obtain ⟨z1, z2, cp, tt, pl, tl, pm, tm⟩ := si
  subst z1 z2
  have pl : ps.length ≤ 197 := pl3
  obtain ⟨cdp, cep⟩ := canon_cd cp pm
  suffices hh : T (evSs Φ 1000000 c__law_exchanged (startP 12 [e6 ⟨w, l, h, t, ps, nI tn, []⟩, .int c, .int m])) (fun r => ∃ (t' : Int) (tl' : List (Int × Int)), (0 ≤ t' ∧ t' < 8) ∧ CD m tl' ∧ tl'.length ≤ ps.length + 3 ∧ (∀ B : Nat, B % 2 = 1 → Zero B tn → (t + sW (odv · B) ps - (t' + sW (odv · B) (canD tl'))) % 8 = 0) ∧ endV r = .ok (e6 ⟨w, l, h, t', canD tl', nI tn, []⟩)) by
    obtain ⟨t', tl', a1, a2, a3, a4, a5⟩ := hh
    obtain ⟨c1, c2, c3, c4⟩ := canD_ok a2
    refine ⟨⟨w, l, h, t', canD tl', nI tn, []⟩, ⟨rfl, rfl, c1, a1, by show (canD tl').length ≤ 200; omega, tl, c2, tm⟩, by show (canD tl').length ≤ _; exact Nat.le_trans c3 a3, rfl, rfl, rfl, fun B b1 b2 => ⟨Iff.rfl, fun z => ?_⟩, f_T rfl a5⟩
    have := a4 B b2 z
    show (t + sW (odv · B) ps + 0 - (t' + sW (odv · B) (canD tl'))) % 8 = 0
    rw [Int.add_zero]
    exact this
  unfold c__law_exchanged
  one_sign
  refine t_dnew (ρ1 := [V (e6 ⟨w, l, h, t, ps, nI tn, []⟩), V (.int c), V (.int m), DD (tI []), none, none, none, none, none, none, none, none]) (by rfl) ?_
  refine t_asg_n (p := .int t) (ρ1 := [V (e6 ⟨w, l, h, t, ps, nI tn, []⟩), V (.int c), V (.int m), DD (tI []), V (.int t), none, none, none, none, none, none, none]) (by rfl) rfl (by rfl) ?_
  refine t_forT (vs := [6, 7]) ps (fun p => [.int p.1, .int p.2]) (p := .tuple (ps.map e2)) (ρ1 := [V (e6 ⟨w, l, h, t, ps, nI tn, []⟩), V (.int c), V (.int m), DD (tI []), V (.int t), none, none, none, none, none, none, none]) (I := fun i ρ => ∃ (s6 : Option PyData) (s7 : Sl), ρ = [V (e6 ⟨w, l, h, t, ps, nI tn, []⟩), V (.int c), V (.int m), DD (tI (ps.take i)), V (.int t), none, slD s6, s7, none, none, none, none]) (K := fun _ => False) (by rfl) (.inl rfl) (by rfl) ⟨none, none, rfl⟩ ?_ (fun _ h => h.elim) ?_
  · rintro i p ρ hi ⟨s6, s7, rfl⟩
    refine ⟨_, rfl, ?_⟩
    simp only [List.set_cons_zero, List.set_cons_succ]
    refine t_dput (p := .int p.2) (j := p.1) (l := tI (ps.take i)) (ρ1 := [V (e6 ⟨w, l, h, t, ps, nI tn, []⟩), V (.int c), V (.int m), DD (tI (ps.take (i + 1))), V (.int t), none, V (.int p.1), V (.int p.2), none, none, none, none]) (by rfl) (by rfl) (by rfl) (scs_tI _) rfl (by unfold tI; rw [List.length_map, List.length_take]; omega) (by rw [putI_tI, put_take cp hi]; rfl) (t_nil ⟨some (.int p.1), _, rfl⟩)
  rintro ρ ⟨s6, s7, rfl⟩
  rw [List.take_length]
  have md2 : ∀ (k : Int) (d : Int) (_ : 0 < d) (_ : d.natAbs.log2 < 9000), ∃ b : Nat, b < 2 ^ m ∧ (((opI2 .fdiv k d).bind fun x => (opV .shl (.int 1) (.int m)).bind fun y => opV .mod x y) = .ok (.int b)) := fun k d hd hl => by
    obtain ⟨b, b1, b2⟩ := md_22 (n := m) (k / d)
    exact ⟨b, b1, by rw [fdD k d hd hl, bind_ok, shl_nn (by omega), bind_ok]; exact b2⟩
  refine t_ifj (fun ρ => ∃ (t' : Int) (tl' : List (Int × Int)) (s6 : Option PyData) (s7 s8 s9 s10 s11 : Sl), ρ = [V (e6 ⟨w, l, h, t, ps, nI tn, []⟩), V (.int c), V (.int m), DD (tI tl'), V (.int t'), none, slD s6, s7, s8, s9, s10, s11] ∧ (0 ≤ t' ∧ t' < 8) ∧ CD m tl' ∧ tl'.length ≤ ps.length + 3 ∧ ∀ B : Nat, B % 2 = 1 → Zero B tn → (t + sW (odv · B) ps - (t' + sW (odv · B) (canD tl'))) % 8 = 0) (t := decide (c % 2 = 0) && (decide (0 < (tn.length : Int)) && decide (0 < (ps.length : Int)))) ?_ (fun hc => ?_) (fun hc => ?_) ?_
  · have l4 : evE Φ (.bi .len [.idx (.var 0) (.cst (.int 4))]) [V (e6 ⟨w, l, h, t, ps, nI tn, []⟩), V (.int c), V (.int m), DD (tI ps), V (.int t), none, slD s6, s7, none, none, none, none] = .ok (.int tn.length) := by
      have : evE Φ (.idx (.var 0) (.cst (.int 4))) [V (e6 ⟨w, l, h, t, ps, nI tn, []⟩), V (.int c), V (.int m), DD (tI ps), V (.int t), none, slD s6, s7, none, none, none, none] = .ok (.tuple ((nI tn).map .int)) := by rfl
      refine (ev_bi1 (y := .int (((nI tn).map PyData.int).length : Nat)) this rfl).trans ?_
      unfold nI
      rw [List.length_map, List.length_map]
    have l3 : evE Φ (.bi .len [.idx (.var 0) (.cst (.int 3))]) [V (e6 ⟨w, l, h, t, ps, nI tn, []⟩), V (.int c), V (.int m), DD (tI ps), V (.int t), none, slD s6, s7, none, none, none, none] = .ok (.int ps.length) := by
      have : evE Φ (.idx (.var 0) (.cst (.int 3))) [V (e6 ⟨w, l, h, t, ps, nI tn, []⟩), V (.int c), V (.int m), DD (tI ps), V (.int t), none, slD s6, s7, none, none, none, none] = .ok (.tuple (ps.map e2)) := by rfl
      refine (ev_bi1 (y := .int ((ps.map e2).length : Nat)) this rfl).trans ?_
      rw [List.length_map]
    refine ev_cj ?_ (ev_cj ?_ ?_)
    · have : evE Φ (.bin .mod (.var 1) (.cst (.int 2))) [V (e6 ⟨w, l, h, t, ps, nI tn, []⟩), V (.int c), V (.int m), DD (tI ps), V (.int t), none, slD s6, s7, none, none, none, none] = .ok (.int (c % 2)) := mdD c 2 (by decide)
      rw [e_cmp, this]; exact cm_eq_ii
    · rw [e_cmp, l4]; exact cm_gt
    · rw [e_cmp, l3]; exact cm_gt
  · rw [Bool.and_eq_true, Bool.and_eq_true] at hc
    have n0 : 0 < tn.length := by have := of_decide_eq_true hc.2.1; omega
    have p0 : 0 < ps.length := by have := of_decide_eq_true hc.2.2; omega
    obtain ⟨i, hi⟩ : ∃ i : Nat, c / 2 % (ps.length : Int) = i := ⟨(c / 2 % (ps.length : Int)).toNat, (Int.toNat_of_nonneg (Int.emod_nonneg _ (by omega))).symm⟩
    have il : i < ps.length := by have := Int.emod_lt_of_pos (c / 2) (show (0 : Int) < (ps.length : Int) by omega); omega
    obtain ⟨j, hj⟩ : ∃ j : Nat, c / 26 % (tn.length : Int) = j := ⟨(c / 26 % (tn.length : Int)).toNat, (Int.toNat_of_nonneg (Int.emod_nonneg _ (by omega))).symm⟩
    have jl : j < tn.length := by have := Int.emod_lt_of_pos (c / 26) (show (0 : Int) < (tn.length : Int) by omega); omega
    have pmem := List.getElem_mem il
    obtain ⟨q0, q2, q3, q4⟩ := cp.pp _ pmem
    have qm := pm _ pmem
    obtain ⟨k, hk⟩ := Int.eq_ofNat_of_zero_le (Int.le_of_lt q0)
    obtain ⟨e, he⟩ : ∃ e, ps[i].2 = e := ⟨_, rfl⟩
    have ep : ps[i] = ((k : Int), e) := Prod.ext hk he
    have klt : k < 2 ^ m := by
      have : ps[i].1 < 2 ^ m := qm
      rw [hk, ← pow_int] at this
      exact Int.ofNat_lt.mp this
    obtain ⟨u, hu⟩ : ∃ u, tn[j] = u := ⟨_, rfl⟩
    have um : u ∈ tn := hu ▸ List.getElem_mem jl
    have ult := tm u um
    refine t_asg_n (p := e2 ((k : Int), e)) (ρ1 := [V (e6 ⟨w, l, h, t, ps, nI tn, []⟩), V (.int c), V (.int m), DD (tI ps), V (.int t), none, slD s6, s7, V (e2 ((k : Int), e)), none, none, none]) ?_ rfl (by rfl) ?_
    · have l3 : evE Φ (.bi .len [.idx (.var 0) (.cst (.int 3))]) [V (e6 ⟨w, l, h, t, ps, nI tn, []⟩), V (.int c), V (.int m), DD (tI ps), V (.int t), none, slD s6, s7, none, none, none, none] = .ok (.int ps.length) := by
        have : evE Φ (.idx (.var 0) (.cst (.int 3))) [V (e6 ⟨w, l, h, t, ps, nI tn, []⟩), V (.int c), V (.int m), DD (tI ps), V (.int t), none, slD s6, s7, none, none, none, none] = .ok (.tuple (ps.map e2)) := by rfl
        refine (ev_bi1 (y := .int ((ps.map e2).length : Nat)) this rfl).trans ?_
        rw [List.length_map]
      have a2 : evE Φ (.bin .fdiv (.var 1) (.cst (.int 2))) [V (e6 ⟨w, l, h, t, ps, nI tn, []⟩), V (.int c), V (.int m), DD (tI ps), V (.int t), none, slD s6, s7, none, none, none, none] = .ok (.int (c / 2)) := fdD c 2 (by decide) (by decide)
      have a3 : evE Φ (.bin .mod (.bin .fdiv (.var 1) (.cst (.int 2))) (.bi .len [.idx (.var 0) (.cst (.int 3))])) [V (e6 ⟨w, l, h, t, ps, nI tn, []⟩), V (.int c), V (.int m), DD (tI ps), V (.int t), none, slD s6, s7, none, none, none, none] = .ok (.int i) := by
        rw [e_bin, a2, bind_ok, l3, ← hi]
        exact mdD (c / 2) ps.length (by omega)
      have a4 : evE Φ (.idx (.var 0) (.cst (.int 3))) [V (e6 ⟨w, l, h, t, ps, nI tn, []⟩), V (.int c), V (.int m), DD (tI ps), V (.int t), none, slD s6, s7, none, none, none, none] = .ok (.tuple (ps.map e2)) := by rfl
      rw [e_idx, a4, bind_ok, a3]
      show idxV (.tuple (ps.map e2)) (.int i) = _
      rw [ix_t, at_n (by rw [List.length_map]; exact il), List.getElem_map, ep]; rfl
    refine t_asg_n (p := .int u) (ρ1 := [V (e6 ⟨w, l, h, t, ps, nI tn, []⟩), V (.int c), V (.int m), DD (tI ps), V (.int t), none, slD s6, s7, V (e2 ((k : Int), e)), V (.int u), none, none]) ?_ rfl (by rfl) ?_
    · have l4 : evE Φ (.bi .len [.idx (.var 0) (.cst (.int 4))]) [V (e6 ⟨w, l, h, t, ps, nI tn, []⟩), V (.int c), V (.int m), DD (tI ps), V (.int t), none, slD s6, s7, V (e2 ((k : Int), e)), none, none, none] = .ok (.int tn.length) := by
        have : evE Φ (.idx (.var 0) (.cst (.int 4))) [V (e6 ⟨w, l, h, t, ps, nI tn, []⟩), V (.int c), V (.int m), DD (tI ps), V (.int t), none, slD s6, s7, V (e2 ((k : Int), e)), none, none, none] = .ok (.tuple ((nI tn).map .int)) := by rfl
        refine (ev_bi1 (y := .int (((nI tn).map PyData.int).length : Nat)) this rfl).trans ?_
        unfold nI
        rw [List.length_map, List.length_map]
      have a2 : evE Φ (.bin .fdiv (.var 1) (.cst (.int 26))) [V (e6 ⟨w, l, h, t, ps, nI tn, []⟩), V (.int c), V (.int m), DD (tI ps), V (.int t), none, slD s6, s7, V (e2 ((k : Int), e)), none, none, none] = .ok (.int (c / 26)) := fdD c 26 (by decide) (by decide)
      have a3 : evE Φ (.bin .mod (.bin .fdiv (.var 1) (.cst (.int 26))) (.bi .len [.idx (.var 0) (.cst (.int 4))])) [V (e6 ⟨w, l, h, t, ps, nI tn, []⟩), V (.int c), V (.int m), DD (tI ps), V (.int t), none, slD s6, s7, V (e2 ((k : Int), e)), none, none, none] = .ok (.int j) := by
        rw [e_bin, a2, bind_ok, l4, ← hj]
        exact mdD (c / 26) tn.length (by omega)
      have a4 : evE Φ (.idx (.var 0) (.cst (.int 4))) [V (e6 ⟨w, l, h, t, ps, nI tn, []⟩), V (.int c), V (.int m), DD (tI ps), V (.int t), none, slD s6, s7, V (e2 ((k : Int), e)), none, none, none] = .ok (.tuple ((nI tn).map .int)) := by rfl
      rw [e_idx, a4, bind_ok, a3]
      show idxV (.tuple ((nI tn).map .int)) (.int j) = _
      rw [ix_t, at_n (by unfold nI; rw [List.length_map, List.length_map]; exact jl)]
      unfold nI
      rw [List.getElem_map, List.getElem_map, hu]; rfl
    have ki : ((k : Int)) < 2 ^ m := by rw [← pow_int]; exact Int.ofNat_lt.mpr klt
    have xlt : k ^^^ u < 2 ^ m := Nat.xor_lt_two_pow klt ult
    have xi : ((k ^^^ u : Nat) : Int) < 2 ^ m := by rw [← pow_int]; exact Int.ofNat_lt.mpr xlt
    have d1 := addD_ok cdp (Int.natCast_nonneg k) ki (-e)
    have d2 := addD_ok d1 (Int.natCast_nonneg (k ^^^ u)) xi e
    have n1 := addD_len ps k (-e)
    have n2 := addD_len (addD ps k (-e)) ((k ^^^ u : Nat) : Int) e
    have v1 : ∀ B : Nat, B % 2 = 1 → _ := fun B hB => add_val cdp t (-e) klt hB
    have v2 : ∀ B : Nat, B % 2 = 1 → _ := fun B hB => add_val d1 (adT t k (-e)) e xlt hB
    refine t_crfv (l := tI ps) (p0 := .int t) (ps := [.int k, .int (-e)]) (l' := tI (addD ps k (-e))) (q := .int (adT t k (-e))) (ρ1 := [V (e6 ⟨w, l, h, t, ps, nI tn, []⟩), V (.int c), V (.int m), DD (tI (addD ps k (-e))), V (.int (adT t k (-e))), none, slD s6, s7, V (e2 ((k : Int), e)), V (.int u), none, none]) (by rfl) (scs_tI _) (by rfl) (by rfl) rfl (h1 t ps k _ (by omega)) (scs_tI _) (isM_tI _) rfl (by rfl) ?_
    refine t_crfv (l := tI (addD ps k (-e))) (p0 := .int (adT t k (-e))) (ps := [.int ((k ^^^ u : Nat) : Int), .int e]) (l' := tI (addD (addD ps k (-e)) ((k ^^^ u : Nat) : Int) e)) (q := .int (adT (adT t k (-e)) ((k ^^^ u : Nat) : Int) e)) (ρ1 := [V (e6 ⟨w, l, h, t, ps, nI tn, []⟩), V (.int c), V (.int m), DD (tI (addD (addD ps k (-e)) ((k ^^^ u : Nat) : Int) e)), V (.int (adT (adT t k (-e)) ((k ^^^ u : Nat) : Int) e)), none, slD s6, s7, V (e2 ((k : Int), e)), V (.int u), none, none]) (by rfl) (scs_tI _) (by rfl) ?_ rfl (h1 _ _ _ _ (by omega)) (scs_tI _) (isM_tI _) rfl (by rfl) (t_nil (nxt ⟨_, _, s6, s7, _, _, _, _, rfl, ⟨Int.emod_nonneg _ (by decide), Int.emod_lt_of_pos _ (by decide)⟩, d2, by omega, fun B hB hz => ?_⟩))
    · have : evE Φ (.bin .bxor (.idx (.var 8) (.cst (.int 0))) (.var 9)) [V (e6 ⟨w, l, h, t, ps, nI tn, []⟩), V (.int c), V (.int m), DD (tI (addD ps k (-e))), V (.int (adT t k (-e))), none, slD s6, s7, V (e2 ((k : Int), e)), V (.int u), none, none] = .ok (.int ((k ^^^ u : Nat) : Int)) := by
        show R.ok (PyData.int (Builtin.bitXor (k : Int) (u : Int))) = _
        rw [bxor_n]
      rw [es_cons, this]; rfl
    · have a1 := v1 B hB
      have a2 := v2 B hB
      have zu : odv (u : Int) B = 0 := by rw [odv_vN, hz u um]; rfl
      rw [xor_odd, zu, Int.add_zero] at a2
      have ok := odv_rng (k : Int) B
      rw [show odv (k : Int) B % 2 = odv (k : Int) B by omega] at a2
      rw [cep, Int.neg_mul] at a1
      generalize e * odv (k : Int) B = x at *
      generalize sW (odv · (B : Int)) ps = x1 at *
      generalize sW (odv · (B : Int)) (canD (addD ps k (-e))) = x2 at *
      generalize sW (odv · (B : Int)) (canD (addD (addD ps k (-e)) ((k ^^^ u : Nat) : Int) e)) = x3 at *
      omega
  · obtain ⟨a, al, ea⟩ := md2 c 2 (by decide) (by decide)
    obtain ⟨b, bl, eb⟩ := md2 c 514 (by decide) (by decide)
    refine t_asg_n (p := .int a) (ρ1 := [V (e6 ⟨w, l, h, t, ps, nI tn, []⟩), V (.int c), V (.int m), DD (tI ps), V (.int t), none, slD s6, s7, none, none, V (.int a), none]) ea rfl (by rfl) ?_
    refine t_asg_n (p := .int b) (ρ1 := [V (e6 ⟨w, l, h, t, ps, nI tn, []⟩), V (.int c), V (.int m), DD (tI ps), V (.int t), none, slD s6, s7, none, none, V (.int a), V (.int b)]) eb rfl (by rfl) ?_
    have lst : evE Φ (.lst [.var 10, .var 11, .bin .bxor (.var 10) (.var 11)]) [V (e6 ⟨w, l, h, t, ps, nI tn, []⟩), V (.int c), V (.int m), DD (tI ps), V (.int t), none, slD s6, s7, none, none, V (.int a), V (.int b)] = .ok (.list ([a, b, a ^^^ b].map fun n : Nat => PyData.int n)) := by
      have : evE Φ (.bin .bxor (.var 10) (.var 11)) [V (e6 ⟨w, l, h, t, ps, nI tn, []⟩), V (.int c), V (.int m), DD (tI ps), V (.int t), none, slD s6, s7, none, none, V (.int a), V (.int b)] = .ok (.int ((a ^^^ b : Nat) : Int)) := by
        show R.ok (PyData.int (Builtin.bitXor (a : Int) (b : Int))) = _
        rw [bxor_n]
      rw [e_lst, es_cons, es_cons, es_cons, this]; rfl
    refine t_forL [a, b, a ^^^ b] (fun n : Nat => PyData.int n) (p := .list ([a, b, a ^^^ b].map fun n : Nat => PyData.int n)) (ρ1 := [V (e6 ⟨w, l, h, t, ps, nI tn, []⟩), V (.int c), V (.int m), DD (tI ps), V (.int t), none, slD s6, s7, none, none, V (.int a), V (.int b)]) (I := fun i ρ => ∃ (t' : Int) (tl' : List (Int × Int)) (s6 : Option PyData), ρ = [V (e6 ⟨w, l, h, t, ps, nI tn, []⟩), V (.int c), V (.int m), DD (tI tl'), V (.int t'), none, slD s6, s7, none, none, V (.int a), V (.int b)] ∧ (0 ≤ t' ∧ t' < 8) ∧ CD m tl' ∧ tl'.length ≤ ps.length + i ∧ ∀ B : Nat, B % 2 = 1 → (t + sW (odv · B) ps + 4 * (([a, b, a ^^^ b].take i).map fun n : Nat => odv n B).sum - (t' + sW (odv · B) (canD tl'))) % 8 = 0) (K := fun _ => False) lst (.inr rfl) (by rfl) ⟨t, ps, s6, rfl, tt, cdp, Nat.le_refl _, fun B _ => by
      rw [cep]
      show (t + sW (odv · (B : Int)) ps + 4 * 0 - (t + sW (odv · (B : Int)) ps)) % 8 = 0
      omega⟩ ?_ (fun _ h => h.elim) ?_
    · rintro i n ρ hi ⟨t', tl', s6, rfl, t8, cd, ll, inv⟩
      have nm := List.mem_of_getElem? hi
      have i3 := get_lt hi
      have i3 : i < 3 := i3
      have nlt : n < 2 ^ m := by
        rcases List.mem_cons.mp nm with rfl | nm
        · exact al
        · rcases List.mem_cons.mp nm with rfl | nm
          · exact bl
          · rw [List.mem_singleton.mp nm]; exact Nat.xor_lt_two_pow al bl
      have ni : ((n : Int)) < 2 ^ m := by rw [← pow_int]; exact Int.ofNat_lt.mpr nlt
      simp only [List.set_cons_zero, List.set_cons_succ]
      refine t_crfv (l := tI tl') (p0 := .int t') (ps := [.int n, .int 4]) (l' := tI (addD tl' n 4)) (q := .int (adT t' n 4)) (ρ1 := [V (e6 ⟨w, l, h, t, ps, nI tn, []⟩), V (.int c), V (.int m), DD (tI (addD tl' n 4)), V (.int (adT t' n 4)), none, V (.int n), s7, none, none, V (.int a), V (.int b)]) (by rfl) (scs_tI _) (by rfl) (by rfl) rfl (h1 t' tl' n _ (by omega)) (scs_tI _) (isM_tI _) rfl (by rfl) (t_nil ⟨_, _, some (.int n), rfl, ⟨Int.emod_nonneg _ (by decide), Int.emod_lt_of_pos _ (by decide)⟩, addD_ok cd (Int.natCast_nonneg n) ni 4, ?_, fun B hB => ?_⟩)
      · have := addD_len tl' n 4
        omega
      · have a1 := inv B hB
        have a2 := add_val cd t' 4 nlt hB
        rw [List.take_add_one, hi, List.map_append, List.sum_append]
        have : (((some n).toList).map fun n : Nat => odv (n : Int) B).sum = odv (n : Int) B := by
          show ([odv (n : Int) B] : List Int).sum = _
          simp
        rw [this]
        generalize (([a, b, a ^^^ b].take i).map fun n : Nat => odv (n : Int) B).sum = x at *
        generalize odv (n : Int) B = y at *
        generalize sW (odv · (B : Int)) ps = x1 at *
        generalize sW (odv · (B : Int)) (canD tl') = x2 at *
        generalize sW (odv · (B : Int)) (canD (addD tl' n 4)) = x3 at *
        omega
    · rintro ρ' ⟨t', tl', s6, rfl, t8, cd, ll, inv⟩
      refine t_nil (nxt ⟨t', tl', s6, _, _, _, _, _, rfl, t8, cd, ll, fun B hB _ => ?_⟩)
      have a1 := inv B hB
      have x := xor_odd a b B
      have s3 : (([a, b, a ^^^ b].take [a, b, a ^^^ b].length).map fun n : Nat => odv (n : Int) B).sum = odv a B + (odv b B + (odv ((a ^^^ b : Nat) : Int) B + 0)) := by rfl
      rw [s3, x] at a1
      generalize odv (a : Int) B = y1 at *
      generalize odv (b : Int) B = y2 at *
      generalize sW (odv · (B : Int)) ps = x1 at *
      generalize sW (odv · (B : Int)) (canD tl') = x2 at *
      omega
  rintro ρ ⟨t', tl', s6, s7, s8, s9, s10, s11, rfl, t8, cd, ll, inv⟩
  obtain ⟨c1, c2, c3, c4⟩ := canD_ok cd
  have cpr : evE Φ (.comp [6] (.nm 6) .seq [.dsrt (.var 3)] (some (.cmp .gt (.dget (.var 3) (.var 6)) (.cst (.int 0)))) (.tup [.var 6, .dget (.var 3) (.var 6)])) [V (e6 ⟨w, l, h, t, ps, nI tn, []⟩), V (.int c), V (.int m), DD (tI tl'), V (.int t'), none, slD s6, s7, s8, s9, s10, s11] = .ok (.list ((canD tl').map e2)) := by
    have dg : ∀ x, x ∈ sortI (tl'.map (·.1)) → evE Φ (.dget (.var 3) (.var 6)) [V (e6 ⟨w, l, h, t, ps, nI tn, []⟩), V (.int c), V (.int m), DD (tI tl'), V (.int t'), none, V (.int x), s7, s8, s9, s10, s11] = .ok (.int (vz tl' x)) := fun x hx => by
      rw [e_dget]
      show ((dictV (.dict (dL (tI tl')))).bind fun l => dgetV l x) = _
      rw [dictV_dL (scs_tI tl'), bind_ok, dg_tI ((sortI_perm _).mem_iff.mp hx)]
    refine (ev_compF (own := [6]) (v := 6) (e := (.dsrt (.var 3))) (ρ := [V (e6 ⟨w, l, h, t, ps, nI tn, []⟩), V (.int c), V (.int m), DD (tI tl'), V (.int t'), none, slD s6, s7, s8, s9, s10, s11]) (sortI (tl'.map (·.1))) PyData.int (p := .list ((sortI (tl'.map (·.1))).map .int)) (ρ1 := [V (e6 ⟨w, l, h, t, ps, nI tn, []⟩), V (.int c), V (.int m), DD (tI tl'), V (.int t'), none, none, s7, s8, s9, s10, s11]) (t := fun k => decide (0 < vz tl' k)) (g := fun k => e2 (k, vz tl' k)) ?_ (.inr rfl) (by cases s6 <;> rfl) ?_ (by rfl) (fun x hx => ?_) fun x hx _ => ?_).trans ?_
    · rw [e_dsrt]
      show ((dictV (.dict (dL (tI tl')))).bind dsrtV) = _
      rw [dictV_dL (scs_tI tl'), bind_ok, dsrt_ok (by unfold tI; rw [List.length_map]; omega), keys_tI]
    · rw [(sortI_perm _).length_eq, List.length_map]; omega
    · show evE Φ (.cmp .gt (.dget (.var 3) (.var 6)) (.cst (.int 0))) [V (e6 ⟨w, l, h, t, ps, nI tn, []⟩), V (.int c), V (.int m), DD (tI tl'), V (.int t'), none, V (.int x), s7, s8, s9, s10, s11] = _
      rw [e_cmp, dg x hx]; exact cm_gt
    · show evE Φ (.tup [.var 6, .dget (.var 3) (.var 6)]) [V (e6 ⟨w, l, h, t, ps, nI tn, []⟩), V (.int c), V (.int m), DD (tI tl'), V (.int t'), none, V (.int x), s7, s8, s9, s10, s11] = _
      rw [e_tup, es_cons, es_cons, dg x hx]; rfl
    · unfold canD
      rw [List.map_map]; rfl
  refine t_asg_n (p := .tuple ((canD tl').map e2)) (ρ1 := [V (e6 ⟨w, l, h, t, ps, nI tn, []⟩), V (.int c), V (.int m), DD (tI tl'), V (.int t'), V (.tuple ((canD tl').map e2)), slD s6, s7, s8, s9, s10, s11]) (ev_tuple cpr) (nl_e2s _) (by rfl) ?_
  exact t_ret (p := e6 ⟨w, l, h, t', canD tl', nI tn, []⟩) (by rfl) ⟨t', tl', t8, cd, ll, inv, rfl⟩
def Sp_shift55 (F : List PyData → R PyData) : Prop := (∀ e : Int, F [.none, .int e] = .ok .none) ∧ ∀ (s : Sum6) (T : Int) (fm : List (List Int × Int)) (K : List Nat) (e : Int), F [eset s T fm K, .int e] = .ok (eset s ((T + e) % 8) fm K)
theorem s_shift55 (Φ : Nat → List PyData → R PyData) : Sp_shift55 (f__law_shifted Φ) := by
  constructor
  · intro e
    refine f_T rfl ?_
    unfold c__law_shifted
    one_sign
    refine t_ife (t := true) (by rfl) ?_
    exact t_ret (p := .none) (by rfl) (by rfl)
  · intro s T fm K e
    refine f_T rfl ?_
    unfold c__law_shifted
    one_sign
    refine t_ife (t := false) (by rfl) ?_
    simp only [cond_false, List.nil_append]
    refine t_ret (p := eset s ((T + e) % 8) fm K) ?_ (by rfl)
    have a0 : evE Φ (.idx (.var 0) (.cst (.int 0))) [V (eset s T fm K), V (.int e)] = .ok (.tuple [.int s.w, .int s.l]) := by rfl
    have a1 : evE Φ (.idx (.var 0) (.cst (.int 1))) [V (eset s T fm K), V (.int e)] = .ok (.int s.h) := by rfl
    have a3 : evE Φ (.idx (.var 0) (.cst (.int 3))) [V (eset s T fm K), V (.int e)] = .ok (eform fm) := by rfl
    have a4 : evE Φ (.idx (.var 0) (.cst (.int 4))) [V (eset s T fm K), V (.int e)] = .ok (.tuple ((nI K).map .int)) := by rfl
    have a2 : evE Φ (.bin .mod (.bin .add (.idx (.var 0) (.cst (.int 2))) (.var 1)) (.cst (.int 8))) [V (eset s T fm K), V (.int e)] = .ok (.int ((T + e) % 8)) := by
      rw [e_bin]
      exact mdD (T + e) 8 (by decide)
    rw [e_tup, es_cons, a0, bind_ok, es_cons, a1, bind_ok, es_cons, a2, bind_ok, es_cons, a3, bind_ok, es_cons, a4]; rfl
end
section
theorem t_put_in : prg.tab 78 = some ⟨3, 7, false, c_put_in⟩ := by kernel_rfl
theorem t_added : prg.tab 1 = some ⟨4, 4, false, c_added⟩ := by kernel_rfl
theorem t_bits_in : prg.tab 14 = some ⟨1, 2, false, c_bits_in⟩ := by kernel_rfl
theorem t_parts_of : prg.tab 73 = some ⟨1, 6, false, c_parts_of⟩ := by kernel_rfl
theorem t_form_of : prg.tab 38 = some ⟨1, 5, false, c_form_of⟩ := by kernel_rfl
theorem t_lead_of : prg.tab 55 = some ⟨1, 1, false, c_lead_of⟩ := by kernel_rfl
theorem t_without_lead : prg.tab 134 = some ⟨2, 2, false, c_without_lead⟩ := by kernel_rfl
theorem t_reduced : prg.tab 82 = some ⟨1, 4, false, c_reduced⟩ := by kernel_rfl
theorem t_settled_sum : prg.tab 89 = some ⟨1, 12, false, c_settled_sum⟩ := by kernel_rfl
theorem t__law_added : prg.tab 1001 = some ⟨4, 4, false, c__law_added⟩ := by kernel_rfl
theorem t__law_sum : prg.tab 1141 = some ⟨4, 11, false, c__law_sum⟩ := by kernel_rfl
theorem t__law_tied : prg.tab 1149 = some ⟨2, 5, false, c__law_tied_k55⟩ := by kernel_rfl
theorem t__law_exchanged : prg.tab 1038 = some ⟨3, 12, false, c__law_exchanged⟩ := by kernel_rfl
theorem t__law_shifted : prg.tab 1126 = some ⟨2, 2, false, c__law_shifted⟩ := by kernel_rfl
def c_law : List S := [.asg (.nm 1) (.cst (.int 0)), .ife (.cmp .gt (.bi .len [.var 0]) (.cst (.int 0))) [.asg (.nm 1) (.idx (.var 0) (.cst (.int 0)))] [], .asg (.nm 2) (.tup [.bin .add (.cst (.int 1)) (.bin .mod (.var 1) (.cst (.int 3))), .bin .mod (.bin .fdiv (.var 1) (.cst (.int 3))) (.cst (.int 4))]), .asg (.nm 3) (.bin .add (.bin .add (.bin .mul (.cst (.int 2)) (.idx (.var 2) (.cst (.int 0)))) (.idx (.var 2) (.cst (.int 1)))) (.cst (.int 1))), .asg (.nm 4) (.bin .mod (.bin .fdiv (.var 1) (.cst (.int 12))) (.bin .add (.bi .len [.var 0]) (.cst (.int 1)))), .asg (.nm 5) (.call 1141 false [.sl (.sl (.var 0) none (some (.var 4))) none (some (.cst (.int 40))), .var 2, .bin .sub (.bin .mod (.bin .fdiv (.var 1) (.cst (.int 5))) (.cst (.int 61))) (.cst (.int 30)), .bin .mod (.bin .fdiv (.var 1) (.cst (.int 7))) (.cst (.int 5))] []), .asg (.nm 6) (.var 5), .loop (.nm 7) .seq [.sl (.var 0) (some (.var 4)) none] [.ife (.cmp .eq (.bin .mod (.var 7) (.cst (.int 3))) (.cst (.int 0))) [.asg (.nm 6) (.tup [.var 2, .idx (.var 5) (.cst (.int 1)), .idx (.var 6) (.cst (.int 2)), .idx (.var 6) (.cst (.int 3)), .call 1149 false [.idx (.var 6) (.cst (.int 4)), .bin .fdiv (.var 7) (.cst (.int 3))] [], .tup []])] [.asg (.nm 6) (.call 1038 false [.var 6, .bin .fdiv (.var 7) (.cst (.int 3)), .var 3] [])]], .asg (.nm 8) (.call 89 false [.var 5] []), .ife (.cmp .ne (.call 89 false [.var 6] []) (.var 8)) [.ret false (.cst (.bool false))] [], .asg (.nm 9) (.bin .add (.cst (.int 1)) (.bin .mod (.bin .fdiv (.var 1) (.cst (.int 11))) (.cst (.int 7)))), .asg (.nm 10) (.tup [.var 2, .idx (.var 5) (.cst (.int 1)), .bin .mod (.bin .add (.idx (.var 6) (.cst (.int 2))) (.var 9)) (.cst (.int 8)), .idx (.var 6) (.cst (.int 3)), .idx (.var 6) (.cst (.int 4)), .tup []]), .ife (.cmp .ne (.call 89 false [.var 10] []) (.call 1126 false [.var 8, .var 9] [])) [.ret false (.cst (.bool false))] [], .ife (.cmp .gt (.bi .len [.idx (.var 5) (.cst (.int 4))]) (.cst (.int 0))) [.ret false (.disj (.cmp .isn (.var 8) (.cst (.none))) (.cmp .ne (.call 89 false [.var 10] []) (.var 8)))] [], .dnew 11, .loop (.tp [14, 15]) .seq [.idx (.var 5) (.cst (.int 3))] [.dput 11 (.var 14) (.var 15)], .crfv 12 11 1001 (.idx (.var 5) (.cst (.int 2))) [.bin .shl (.cst (.int 1)) (.bin .add (.cst (.int 1)) (.bin .mod (.bin .fdiv (.var 1) (.cst (.int 13))) (.bin .sub (.var 3) (.cst (.int 1))))), .var 9], .asg (.nm 13) (.bi .tuple1 [.comp [14] (.nm 14) .seq [.dsrt (.var 11)] (some (.cmp .gt (.dget (.var 11) (.var 14)) (.cst (.int 0)))) (.tup [.var 14, .dget (.var 11) (.var 14)])]), .ret false (.cmp .ne (.call 89 false [.tup [.var 2, .idx (.var 5) (.cst (.int 1)), .var 12, .var 13, .tup [], .tup []]] []) (.var 8))]
def f_law (Φ : Nat → List PyData → R PyData) : List PyData → R PyData := fn Φ 1 16 c_law
theorem t_law : prg.tab 1178 = some ⟨1, 16, false, c_law⟩ := by kernel_rfl
/-! ### what is told, told again -/
theorem sS_form (n : Nat) (fm : List (List Int × Int)) : sS (n + 3) (eform fm) = true := sS_tup (sSs_all fun q hq => by
  obtain ⟨p, _, rfl⟩ := List.mem_map.mp hq
  exact sS_tup (sSs_cons (sS_tup (sSs_intsF _ _)) (sSs_cons sS_int sSs_nil)))
theorem sS_eset (s : Sum6) (T : Int) (fm : List (List Int × Int)) (K : List Nat) : sS 60 (eset s T fm K) = true :=
  sS_tup (sSs_cons (sS_tup (sSs_intsF 58 [(s.w : Int), s.l])) (sSs_cons sS_int (sSs_cons sS_int (sSs_cons (sS_form 56 fm) (sSs_cons (sS_tup (sSs_intsF 58 _)) sSs_nil)))))
def IsTold (m : Nat) (s : Sum6) (tn : List Nat) (P : PyData) : Prop := (1 ∈ kpN tn ∧ P = .none) ∨ (1 ∉ kpN tn ∧ ∃ T fm, Told m s (kpN tn) T fm ∧ P = eset s T fm (kpN tn))
theorem IsTold.nl {m : Nat} {s : Sum6} {tn : List Nat} {P : PyData} (h : IsTold m s tn P) : noList P = true := by
  rcases h with ⟨_, rfl⟩ | ⟨_, T, fm, _, rfl⟩
  · rfl
  · exact nl_eset _ _ _ _
theorem none_ne : cmV .ne .none .none = .ok (.bool false) := by kernel_rfl
theorem eset_hd {s s' : Sum6} (hw : s.w = s'.w) (hl : s.l = s'.l) (hh : s.h = s'.h) (T : Int) (fm : List (List Int × Int)) (K : List Nat) : eset s T fm K = eset s' T fm K := by
  unfold eset
  rw [hw, hl, hh]
theorem told_eq {m : Nat} (hm : m ≤ 20) (m1 : 1 ≤ m) {s s' : Sum6} {tn tn' : List Nat} {e : Int} (h : SIn m s tn) (h' : SIn m s' tn') (hw : s.w = s'.w) (hl : s.l = s'.l) (hh : s.h = s'.h) (sm : SameN m s s' tn tn' e) {P P' : PyData} (t : IsTold m s tn P) (t' : IsTold m s' tn' P') : (P = .none ∧ P' = .none) ∨ ∃ T fm, (0 ≤ T ∧ T < 8) ∧ P = eset s T fm (kpN tn) ∧ P' = eset s ((T + e) % 8) fm (kpN tn) := by
  obtain ⟨a, b⟩ := told_same hm m1 h h' sm
  rcases t with ⟨c, rfl⟩ | ⟨c, T, fm, td, rfl⟩
  · rcases t' with ⟨c', rfl⟩ | ⟨c', _⟩
    · exact .inl ⟨rfl, rfl⟩
    · exact absurd (a.mp c) c'
  · rcases t' with ⟨c', rfl⟩ | ⟨c', T', fm', td', rfl⟩
    · exact absurd (a.mpr c') c
    · obtain ⟨eK, f⟩ := b c
      obtain ⟨e1, e2⟩ := f T T' fm fm' td td'
      refine .inr ⟨T, fm, td.t0, rfl, ?_⟩
      rw [e1, e2, ← eK]
      exact (eset_hd hw hl hh _ _ _).symm
theorem eset_inj {s s' : Sum6} {T T' : Int} {fm fm' : List (List Int × Int)} {K K' : List Nat} (h : eset s T fm K = eset s' T' fm' K') : T = T' ∧ fm = fm' := by
  unfold eset at h
  injection h with h
  injection h with _ h
  injection h with _ h
  injection h with h1 h
  injection h with h2 _
  injection h1 with h1
  refine ⟨h1, ?_⟩
  unfold eform at h2
  injection h2 with h2
  have intsq : ∀ a b : List Int, a.map PyData.int = b.map PyData.int → a = b := fun a => by
    induction a with
    | nil =>
      intro b h
      cases b with
      | nil => rfl
      | cons _ _ => cases h
    | cons x a ih =>
      intro b h
      cases b with
      | nil => cases h
      | cons y b =>
        rw [List.map_cons, List.map_cons] at h
        injection h with h1 h2
        injection h1 with h1
        rw [h1, ih b h2]
  clear h1
  induction fm generalizing fm' with
  | nil =>
    cases fm' with
    | nil => rfl
    | cons _ _ => cases h2
  | cons p fm ih =>
    cases fm' with
    | nil => cases h2
    | cons q fm' =>
      rw [List.map_cons, List.map_cons] at h2
      injection h2 with h3 h4
      injection h3 with h3
      injection h3 with h5 h6
      injection h6 with h6 _
      unfold tkP at h5
      injection h5 with h5
      injection h6 with h6
      rw [ih h4, Prod.ext (intsq _ _ h5) h6]
/-! ### the law -/
def Sp_settledP (F : List PyData → R PyData) : Prop := ∀ (m : Nat) (s : Sum6) (tn : List Nat), m ≤ 20 → SIn m s tn → ∃ P, IsTold m s tn P ∧ F [e6 s] = .ok P
theorem settledP {F : List PyData → R PyData} (h : Sp_settled54 F) : Sp_settledP F := fun m s tn hm hs => by
  rcases h m s tn hm hs with ⟨a, b⟩ | ⟨a, T, fm, b, c⟩
  · exact ⟨_, .inl ⟨a, rfl⟩, b⟩
  · exact ⟨_, .inr ⟨a, T, fm, b, rfl⟩, c⟩
def Sp_law (F : List PyData → R PyData) : Prop := ∀ ns : List Int, ns.length ≤ 63 → F [elist ns] = .ok (.bool true)
theorem s_law55 (Φ : Nat → List PyData → R PyData) (h1 : Sp_lsum (Φ 1141)) (h20 : Sp_settled54 (Φ 89)) (h3 : Sp_tied55 (Φ 1149)) (h4 : Sp_exch55 (Φ 1038)) (h5 : Sp_shift55 (Φ 1126)) (h6 : Sp_ladded (Φ 1001)) : Sp_law (f_law Φ) := by
  intro ns hl
  have h2 := settledP h20
  clear h20
  refine f_T rfl ?_
  unfold c_law
  unfold elist at *
  one_sign
  have ln : ∀ ρ : PEnv, ρ[0]? = some (V (.list (ns.map .int))) → evE Φ (.bi .len [.var 0]) ρ = .ok (.int ns.length) := fun ρ h => by
    rw [show (.int ns.length : PyData) = .int ((ns.map PyData.int).length : Nat) by rw [List.length_map]]
    exact ev_len (by rw [e_var, h]; rfl)
  refine t_asg_n (p := .int 0) (ρ1 := [V (.list (ns.map .int)), V (.int 0), none, none, none, none, none, none, none, none, none, none, none, none, none, none]) (by rfl) rfl (by rfl) ?_
  refine t_ifj (fun ρ => ∃ f : Int, ρ = [V (.list (ns.map .int)), V (.int f), none, none, none, none, none, none, none, none, none, none, none, none, none, none]) (t := decide (0 < (ns.length : Int))) ?_ (fun h => ?_) (fun h => t_nil (nxt ⟨0, rfl⟩)) ?_
  · rw [e_cmp, ln _ rfl]
    exact cm_gt
  · have hp : 0 < ns.length := by have := of_decide_eq_true h; omega
    refine t_asg_n (p := .int ns[0]) (ρ1 := [V (.list (ns.map .int)), V (.int ns[0]), none, none, none, none, none, none, none, none, none, none, none, none, none, none]) ?_ rfl (by rfl) (t_nil (nxt ⟨_, rfl⟩))
    rw [e_idx]
    show idxV (.list (ns.map .int)) (.int ((0 : Nat) : Int)) = _
    rw [ix_l, at_n (by rw [List.length_map]; exact hp), List.getElem_map]; rfl
  rintro ρ ⟨f, rfl⟩
  have dvm : ∀ (d n : Int), 0 < d → d.natAbs.log2 < 9000 → 0 < n → ((opI2 .fdiv f d).bind fun x => opV .mod x (.int n)) = .ok (.int (f / d % n)) := fun d n hd hl hn => by
    rw [fdD f d hd hl, bind_ok]
    exact mdD (f / d) n hn
  have nn : ∀ (x n : Int), 0 < n → ∃ k : Nat, x % n = k ∧ (k : Int) < n := fun x n hn => ⟨(x % n).toNat, (Int.toNat_of_nonneg (Int.emod_nonneg _ (by omega))).symm, by
    rw [Int.toNat_of_nonneg (Int.emod_nonneg _ (by omega))]
    exact Int.emod_lt_of_pos _ hn⟩
  obtain ⟨w0, ew0, w03⟩ := nn f 3 (by decide)
  obtain ⟨l, el, l4⟩ := nn (f / 3) 4 (by decide)
  obtain ⟨w, hw⟩ : ∃ w, w = 1 + w0 := ⟨_, rfl⟩
  refine t_asg_n (p := .tuple [.int w, .int l]) (ρ1 := [V (.list (ns.map .int)), V (.int f), V (.tuple [.int w, .int l]), none, none, none, none, none, none, none, none, none, none, none, none, none]) ?_ rfl (by rfl) ?_
  · have a1 : evE Φ (.bin .mod (.var 1) (.cst (.int 3))) [V (.list (ns.map .int)), V (.int f), none, none, none, none, none, none, none, none, none, none, none, none, none, none] = .ok (.int w0) := by rw [← ew0]; exact mdD f 3 (by decide)
    have a2 : evE Φ (.bin .mod (.bin .fdiv (.var 1) (.cst (.int 3))) (.cst (.int 4))) [V (.list (ns.map .int)), V (.int f), none, none, none, none, none, none, none, none, none, none, none, none, none, none] = .ok (.int l) := by rw [← el]; exact dvm 3 4 (by decide) (by decide) (by decide)
    have a3 : evE Φ (.bin .add (.cst (.int 1)) (.bin .mod (.var 1) (.cst (.int 3)))) [V (.list (ns.map .int)), V (.int f), none, none, none, none, none, none, none, none, none, none, none, none, none, none] = .ok (.int w) := by
      rw [e_bin, a1]
      show R.ok (PyData.int (1 + (w0 : Int))) = _
      rw [hw]; congr 2
    rw [e_tup, es_cons, a3, bind_ok, es_cons, a2]; rfl
  obtain ⟨m, hm⟩ : ∃ m, m = 2 * w + l + 1 := ⟨_, rfl⟩
  have m10 : m ≤ 10 := by omega
  have m3 : 3 ≤ m := by omega
  refine t_asg_n (p := .int m) (ρ1 := [V (.list (ns.map .int)), V (.int f), V (.tuple [.int w, .int l]), V (.int m), none, none, none, none, none, none, none, none, none, none, none, none]) ?_ rfl (by rfl) ?_
  · show (((opI2 .mul 2 w).bind fun x => opV .add x (.int l)).bind fun x => opV .add x (.int 1)) = _
    rw [op_i_mul, g_mul (by omega) (by omega) (by omega) (by omega)]
    show R.ok (PyData.int (2 * (w : Int) + l + 1)) = _
    congr 2
    omega
  obtain ⟨q, eq, ql⟩ := nn (f / 12) ((ns.length : Int) + 1) (by omega)
  refine t_asg_n (p := .int q) (ρ1 := [V (.list (ns.map .int)), V (.int f), V (.tuple [.int w, .int l]), V (.int m), V (.int q), none, none, none, none, none, none, none, none, none, none, none]) ?_ rfl (by rfl) ?_
  · have a1 : evE Φ (.bin .fdiv (.var 1) (.cst (.int 12))) [V (.list (ns.map .int)), V (.int f), V (.tuple [.int w, .int l]), V (.int m), none, none, none, none, none, none, none, none, none, none, none, none] = .ok (.int (f / 12)) := fdD f 12 (by decide) (by decide)
    have a2 : evE Φ (.bin .add (.bi .len [.var 0]) (.cst (.int 1))) [V (.list (ns.map .int)), V (.int f), V (.tuple [.int w, .int l]), V (.int m), none, none, none, none, none, none, none, none, none, none, none, none] = .ok (.int ((ns.length : Int) + 1)) := by
      rw [e_bin, ln _ rfl]; rfl
    rw [e_bin, a1, bind_ok, a2, bind_ok, ← eq]
    exact mdD (f / 12) ((ns.length : Int) + 1) (by omega)
  obtain ⟨cs, hcs⟩ : ∃ cs, cs = (ns.take q).take 40 := ⟨_, rfl⟩
  have cl : cs.length ≤ 40 ∧ cs.length ≤ q := by
    rw [hcs, List.length_take, List.length_take]
    omega
  have cutE : evE Φ (.sl (.sl (.var 0) none (some (.var 4))) none (some (.cst (.int 40)))) [V (.list (ns.map .int)), V (.int f), V (.tuple [.int w, .int l]), V (.int m), V (.int q), none, none, none, none, none, none, none, none, none, none, none] = .ok (.list (cs.map .int)) := by
    show R.ok (PyData.list (cutP (cutP (ns.map .int) none (some (q : Int))) none (some ((40 : Nat) : Int)))) = _
    rw [cut_to, cut_to, hcs, List.map_take, List.map_take]
  obtain ⟨s, tn, sl, es⟩ := h1 cs w l (f / 5 % 61 - 30) (f / 7 % 5) (by omega) (by omega)
  obtain ⟨si, sw, sll, sh, sup, spos, stl, spl⟩ := sl
  rw [← hm] at si
  refine t_asg_n (p := e6 s) (ρ1 := [V (.list (ns.map .int)), V (.int f), V (.tuple [.int w, .int l]), V (.int m), V (.int q), V (e6 s), none, none, none, none, none, none, none, none, none, none]) ?_ (nl_e6 s) (by rfl) ?_
  · have a1 : evE Φ (.bin .sub (.bin .mod (.bin .fdiv (.var 1) (.cst (.int 5))) (.cst (.int 61))) (.cst (.int 30))) [V (.list (ns.map .int)), V (.int f), V (.tuple [.int w, .int l]), V (.int m), V (.int q), none, none, none, none, none, none, none, none, none, none, none] = .ok (.int (f / 5 % 61 - 30)) := by
      have : evE Φ (.bin .mod (.bin .fdiv (.var 1) (.cst (.int 5))) (.cst (.int 61))) [V (.list (ns.map .int)), V (.int f), V (.tuple [.int w, .int l]), V (.int m), V (.int q), none, none, none, none, none, none, none, none, none, none, none] = .ok (.int (f / 5 % 61)) := dvm 5 61 (by decide) (by decide) (by decide)
      rw [e_bin, this]; rfl
    have a2 : evE Φ (.bin .mod (.bin .fdiv (.var 1) (.cst (.int 7))) (.cst (.int 5))) [V (.list (ns.map .int)), V (.int f), V (.tuple [.int w, .int l]), V (.int m), V (.int q), none, none, none, none, none, none, none, none, none, none, none] = .ok (.int (f / 7 % 5)) := dvm 7 5 (by decide) (by decide) (by decide)
    have a3 : evE Φ (.sl (.sl (.var 0) none (some (.var 4))) none (some (.cst (.int 40)))) [V (.list (ns.map .int)), V (.int f), V (.tuple [.int w, .int l]), V (.int m), V (.int q), none, none, none, none, none, none, none, none, none, none, none] = .ok (.list (cs.map .int)) := cutE
    rw [e_call, es_cons, a3, bind_ok, es_cons, es_cons, a1, bind_ok, es_cons, a2]
    exact es
  refine t_asg_n (p := e6 s) (ρ1 := [V (.list (ns.map .int)), V (.int f), V (.tuple [.int w, .int l]), V (.int m), V (.int q), V (e6 s), V (e6 s), none, none, none, none, none, none, none, none, none]) (by rfl) (nl_e6 s) (by rfl) ?_
  have cutF : evE Φ (.sl (.var 0) (some (.var 4)) none) [V (.list (ns.map .int)), V (.int f), V (.tuple [.int w, .int l]), V (.int m), V (.int q), V (e6 s), V (e6 s), none, none, none, none, none, none, none, none, none] = .ok (.list ((ns.drop q).map .int)) := by
    show R.ok (PyData.list (cutP (ns.map .int) (some (q : Int)) none)) = _
    rw [cut_from, List.map_drop]
  have dl : (ns.drop q).length = ns.length - q := List.length_drop
  refine t_forL (ns.drop q) PyData.int (p := .list ((ns.drop q).map .int)) (ρ1 := [V (.list (ns.map .int)), V (.int f), V (.tuple [.int w, .int l]), V (.int m), V (.int q), V (e6 s), V (e6 s), none, none, none, none, none, none, none, none, none]) (I := fun i ρ => ∃ (so : Sum6) (to : List Nat) (s7 : Sl), ρ = [V (.list (ns.map .int)), V (.int f), V (.tuple [.int w, .int l]), V (.int m), V (.int q), V (e6 s), V (e6 so), s7, none, none, none, none, none, none, none, none] ∧ SIn m so to ∧ so.ps.length ≤ s.ps.length + 3 * i ∧ to.length ≤ 40 ∧ so.w = w ∧ so.l = l ∧ so.h = s.h ∧ SameN m s so tn to 0) (K := fun _ => False) cutF (.inr rfl) (by rfl) ⟨s, tn, none, rfl, si, by omega, by omega, sw, sll, rfl, fun B b1 b2 => ⟨Iff.rfl, fun _ => by
    rw [Int.add_zero, Int.sub_self]; rfl⟩⟩ ?_ (fun _ h => h.elim) ?_
  · rintro i c ρ hi ⟨so, to, s7, rfl, oi, opl, otl, ow, ol, oh, osm⟩
    have il := get_lt hi
    simp only [List.set_cons_zero, List.set_cons_succ]
    have c3 : evE Φ (.bin .mod (.var 7) (.cst (.int 3))) [V (.list (ns.map .int)), V (.int f), V (.tuple [.int w, .int l]), V (.int m), V (.int q), V (e6 s), V (e6 so), V (.int c), none, none, none, none, none, none, none, none] = .ok (.int (c % 3)) := mdD c 3 (by decide)
    have d3 : evE Φ (.bin .fdiv (.var 7) (.cst (.int 3))) [V (.list (ns.map .int)), V (.int f), V (.tuple [.int w, .int l]), V (.int m), V (.int q), V (e6 s), V (e6 so), V (.int c), none, none, none, none, none, none, none, none] = .ok (.int (c / 3)) := fdD c 3 (by decide) (by decide)
    refine t_if (t := decide (c % 3 = 0)) (by rw [e_cmp, c3]; exact cm_eq_ii) (fun _ => ?_) (fun _ => ?_)
    · obtain ⟨tn', t1, t2, t3, t4⟩ := h3 to (c / 3) (by omega)
      obtain ⟨so_w, so_l, so_h, so_t, so_ps, so_ts, so_hs⟩ := so
      obtain ⟨z1, z2, ocp, ott, opl2, otl2, opm, otm⟩ := oi
      subst z1 z2
      refine t_asg_n (p := e6 ⟨w, l, s.h, so_t, so_ps, nI tn', []⟩) (ρ1 := [V (.list (ns.map .int)), V (.int f), V (.tuple [.int w, .int l]), V (.int m), V (.int q), V (e6 s), V (e6 ⟨w, l, s.h, so_t, so_ps, nI tn', []⟩), V (.int c), none, none, none, none, none, none, none, none]) ?_ (nl_e6 _) (by rfl) (t_nil ⟨⟨w, l, s.h, so_t, so_ps, nI tn', []⟩, tn', _, rfl, ⟨rfl, rfl, ocp, ott, opl2, by omega, opm, t3 m otm⟩, by
        have : so_ps.length ≤ s.ps.length + 3 * i := opl
        show so_ps.length ≤ _
        omega, by omega, rfl, rfl, rfl, fun B b1 b2 => ⟨(osm B b1 b2).1.trans (t2 B), (osm B b1 b2).2⟩⟩)
      have a1 : evE Φ (.call 1149 false [.idx (.var 6) (.cst (.int 4)), .bin .fdiv (.var 7) (.cst (.int 3))] []) [V (.list (ns.map .int)), V (.int f), V (.tuple [.int w, .int l]), V (.int m), V (.int q), V (e6 s), V (e6 ⟨so_w, so_l, so_h, so_t, so_ps, nI to, []⟩), V (.int c), none, none, none, none, none, none, none, none] = .ok (.tuple ((nI tn').map .int)) := by
        have b1 : evE Φ (.idx (.var 6) (.cst (.int 4))) [V (.list (ns.map .int)), V (.int f), V (.tuple [.int w, .int l]), V (.int m), V (.int q), V (e6 s), V (e6 ⟨so_w, so_l, so_h, so_t, so_ps, nI to, []⟩), V (.int c), none, none, none, none, none, none, none, none] = .ok (.tuple ((nI to).map .int)) := by rfl
        have b2 : evE Φ (.bin .fdiv (.var 7) (.cst (.int 3))) [V (.list (ns.map .int)), V (.int f), V (.tuple [.int w, .int l]), V (.int m), V (.int q), V (e6 s), V (e6 ⟨so_w, so_l, so_h, so_t, so_ps, nI to, []⟩), V (.int c), none, none, none, none, none, none, none, none] = .ok (.int (c / 3)) := d3
        rw [e_call, es_cons, b1, bind_ok, es_cons, b2]
        exact t4
      rw [e_tup, es_cons, es_cons, es_cons, es_cons, es_cons, a1]; rfl
    · obtain ⟨s', x1, x2, x3, x4, x5, x6, x7⟩ := h4 m so to (c / 3) (by omega) oi (by omega)
      refine t_asg_n (p := e6 s') (ρ1 := [V (.list (ns.map .int)), V (.int f), V (.tuple [.int w, .int l]), V (.int m), V (.int q), V (e6 s), V (e6 s'), V (.int c), none, none, none, none, none, none, none, none]) ?_ (nl_e6 _) (by rfl) (t_nil ⟨s', to, _, rfl, x1, by omega, otl, x3.trans ow, x4.trans ol, x5.trans oh, fun B b1 b2 => ⟨(osm B b1 b2).1, fun z => ?_⟩⟩)
      · rw [e_call, es_cons, es_cons, d3]
        exact x7
      · have y1 := (osm B b1 b2).2 z
        have y2 := (x6 B b1 b2).2 ((osm B b1 b2).1.mp z)
        omega
  rintro ρ ⟨so, to, s7, rfl, oi, opl, otl, ow, ol, oh, osm⟩
  obtain ⟨P1, p1, f1⟩ := h2 m s tn (by omega) si
  obtain ⟨P2, p2, f2⟩ := h2 m so to (by omega) oi
  refine t_asg_n (p := P1) (ρ1 := [V (.list (ns.map .int)), V (.int f), V (.tuple [.int w, .int l]), V (.int m), V (.int q), V (e6 s), V (e6 so), s7, V P1, none, none, none, none, none, none, none]) f1 p1.nl (by rfl) ?_
  have hd : s.w = so.w ∧ s.l = so.l ∧ s.h = so.h := ⟨by rw [sw, ow], by rw [sll, ol], oh.symm⟩
  refine t_ife (t := false) ?_ ?_
  · have a1 : evE Φ (.call 89 false [.var 6] []) [V (.list (ns.map .int)), V (.int f), V (.tuple [.int w, .int l]), V (.int m), V (.int q), V (e6 s), V (e6 so), s7, V P1, none, none, none, none, none, none, none] = .ok P2 := f2
    have a2 : evE Φ (.var 8) [V (.list (ns.map .int)), V (.int f), V (.tuple [.int w, .int l]), V (.int m), V (.int q), V (e6 s), V (e6 so), s7, V P1, none, none, none, none, none, none, none] = .ok P1 := by rfl
    rw [e_cmp, a1, bind_ok, a2, bind_ok]
    rcases told_eq (by omega) (by omega) si oi hd.1 hd.2.1 hd.2.2 osm p1 p2 with ⟨rfl, rfl⟩ | ⟨T, fm, tr, rfl, rfl⟩
    · exact none_ne
    · rw [show (T + 0) % 8 = T by omega]
      exact cm_ne_self (sS_eset _ _ _ _)
  simp only [cond_false, List.nil_append]
  obtain ⟨e, he, e17⟩ : ∃ e : Int, 1 + f / 11 % 7 = e ∧ 1 ≤ e ∧ e ≤ 7 := ⟨_, rfl, by
    have := Int.emod_nonneg (f / 11) (show (7 : Int) ≠ 0 by decide)
    have := Int.emod_lt_of_pos (f / 11) (show (0 : Int) < 7 by decide)
    omega⟩
  refine t_asg_n (p := .int e) (ρ1 := [V (.list (ns.map .int)), V (.int f), V (.tuple [.int w, .int l]), V (.int m), V (.int q), V (e6 s), V (e6 so), s7, V P1, V (.int e), none, none, none, none, none, none]) ?_ rfl (by rfl) ?_
  · have : evE Φ (.bin .mod (.bin .fdiv (.var 1) (.cst (.int 11))) (.cst (.int 7))) [V (.list (ns.map .int)), V (.int f), V (.tuple [.int w, .int l]), V (.int m), V (.int q), V (e6 s), V (e6 so), s7, V P1, none, none, none, none, none, none, none] = .ok (.int (f / 11 % 7)) := dvm 11 7 (by decide) (by decide) (by decide)
    rw [e_bin, this, ← he]; rfl
  obtain ⟨sm, hsm⟩ : ∃ sm : Sum6, sm = ⟨w, l, s.h, (so.t + e) % 8, so.ps, nI to, []⟩ := ⟨_, rfl⟩
  refine t_asg_n (p := e6 sm) (ρ1 := [V (.list (ns.map .int)), V (.int f), V (.tuple [.int w, .int l]), V (.int m), V (.int q), V (e6 s), V (e6 so), s7, V P1, V (.int e), V (e6 sm), none, none, none, none, none]) ?_ (nl_e6 _) (by rfl) ?_
  · have ots := oi.ts
    have a1 : evE Φ (.bin .mod (.bin .add (.idx (.var 6) (.cst (.int 2))) (.var 9)) (.cst (.int 8))) [V (.list (ns.map .int)), V (.int f), V (.tuple [.int w, .int l]), V (.int m), V (.int q), V (e6 s), V (e6 so), s7, V P1, V (.int e), none, none, none, none, none, none] = .ok (.int ((so.t + e) % 8)) := by
      rw [e_bin]
      exact mdD (so.t + e) 8 (by decide)
    have a2 : evE Φ (.idx (.var 6) (.cst (.int 4))) [V (.list (ns.map .int)), V (.int f), V (.tuple [.int w, .int l]), V (.int m), V (.int q), V (e6 s), V (e6 so), s7, V P1, V (.int e), none, none, none, none, none, none] = .ok (.tuple ((nI to).map .int)) := by
      rw [← ots]; rfl
    rw [e_tup, es_cons, es_cons, es_cons, a1, bind_ok, es_cons, es_cons, a2, hsm]; rfl
  have mi : SIn m sm to := by
    rw [hsm]
    exact ⟨rfl, rfl, oi.cp, ⟨Int.emod_nonneg _ (by decide), Int.emod_lt_of_pos _ (by decide)⟩, oi.pl, oi.tl, oi.pm, oi.tm⟩
  obtain ⟨P3, p3, f3⟩ := h2 m sm to (by omega) mi
  have msm : SameN m s sm tn to e := fun B b1 b2 => ⟨(osm B b1 b2).1, fun z => by
    have y := (osm B b1 b2).2 z
    rw [hsm]
    show (s.t + sW (odv · B) s.ps + e - ((so.t + e) % 8 + sW (odv · B) so.ps)) % 8 = 0
    omega⟩
  have te := told_eq (by omega) (by omega) si mi (by rw [sw, hsm]) (by rw [sll, hsm]) (by rw [hsm]) msm p1 p3
  have t3e : evE Φ (.call 89 false [.var 10] []) [V (.list (ns.map .int)), V (.int f), V (.tuple [.int w, .int l]), V (.int m), V (.int q), V (e6 s), V (e6 so), s7, V P1, V (.int e), V (e6 sm), none, none, none, none, none] = .ok P3 := f3
  refine t_ife (t := false) ?_ ?_
  · rcases te with ⟨rfl, rfl⟩ | ⟨T, fm, tr, rfl, rfl⟩
    · have a2 : evE Φ (.call 1126 false [.var 8, .var 9] []) [V (.list (ns.map .int)), V (.int f), V (.tuple [.int w, .int l]), V (.int m), V (.int q), V (e6 s), V (e6 so), s7, V .none, V (.int e), V (e6 sm), none, none, none, none, none] = .ok .none := h5.1 e
      have a1 : evE Φ (.call 89 false [.var 10] []) [V (.list (ns.map .int)), V (.int f), V (.tuple [.int w, .int l]), V (.int m), V (.int q), V (e6 s), V (e6 so), s7, V .none, V (.int e), V (e6 sm), none, none, none, none, none] = .ok .none := f3
      rw [e_cmp, a1, bind_ok, a2, bind_ok]
      exact none_ne
    · have a2 : evE Φ (.call 1126 false [.var 8, .var 9] []) [V (.list (ns.map .int)), V (.int f), V (.tuple [.int w, .int l]), V (.int m), V (.int q), V (e6 s), V (e6 so), s7, V (eset s T fm (kpN tn)), V (.int e), V (e6 sm), none, none, none, none, none] = .ok (eset s ((T + e) % 8) fm (kpN tn)) := h5.2 s T fm _ e
      have a1 : evE Φ (.call 89 false [.var 10] []) [V (.list (ns.map .int)), V (.int f), V (.tuple [.int w, .int l]), V (.int m), V (.int q), V (e6 s), V (e6 so), s7, V (eset s T fm (kpN tn)), V (.int e), V (e6 sm), none, none, none, none, none] = .ok (eset s ((T + e) % 8) fm (kpN tn)) := f3
      rw [e_cmp, a1, bind_ok, a2, bind_ok]
      exact cm_ne_self (sS_eset _ _ _ _)
  simp only [cond_false, List.nil_append]
  have l4 : evE Φ (.bi .len [.idx (.var 5) (.cst (.int 4))]) [V (.list (ns.map .int)), V (.int f), V (.tuple [.int w, .int l]), V (.int m), V (.int q), V (e6 s), V (e6 so), s7, V P1, V (.int e), V (e6 sm), none, none, none, none, none] = .ok (.int tn.length) := by
    have : evE Φ (.idx (.var 5) (.cst (.int 4))) [V (.list (ns.map .int)), V (.int f), V (.tuple [.int w, .int l]), V (.int m), V (.int q), V (e6 s), V (e6 so), s7, V P1, V (.int e), V (e6 sm), none, none, none, none, none] = .ok (.tuple ((nI tn).map .int)) := by rw [← si.ts]; rfl
    refine (ev_bi1 (y := .int (((nI tn).map PyData.int).length : Nat)) this rfl).trans ?_
    unfold nI
    rw [List.length_map, List.length_map]
  refine t_if (t := decide (0 < (tn.length : Int))) (by rw [e_cmp, l4]; exact cm_gt) (fun _ => ?_) (fun hn => ?_)
  · refine t_ret (p := .bool true) ?_ (by rfl)
    rcases te with ⟨rfl, rfl⟩ | ⟨T, fm, tr, rfl, rfl⟩
    · rfl
    · have a1 : evE Φ (.call 89 false [.var 10] []) [V (.list (ns.map .int)), V (.int f), V (.tuple [.int w, .int l]), V (.int m), V (.int q), V (e6 s), V (e6 so), s7, V (eset s T fm (kpN tn)), V (.int e), V (e6 sm), none, none, none, none, none] = .ok (eset s ((T + e) % 8) fm (kpN tn)) := f3
      have a2 : evE Φ (.var 8) [V (.list (ns.map .int)), V (.int f), V (.tuple [.int w, .int l]), V (.int m), V (.int q), V (e6 s), V (e6 so), s7, V (eset s T fm (kpN tn)), V (.int e), V (e6 sm), none, none, none, none, none] = .ok (eset s T fm (kpN tn)) := by rfl
      refine (ev_dj (x := false) (y := true) (by rfl) ?_).trans rfl
      rw [e_cmp, a1, bind_ok, a2, bind_ok]
      refine cm_ne_not (sS_eset _ _ _ _) (sS_eset _ _ _ _) fun z => ?_
      have := (eset_inj z).1
      omega
  have tn0 : tn = [] := by
    have := of_decide_eq_false hn
    exact List.length_eq_zero_iff.mp (by omega)
  subst tn0
  obtain ⟨s_w, s_l, s_h, s_t, s_ps, s_ts, s_hs⟩ := s
  obtain ⟨z1, z2, cp, tt, pl, tl, pm, tm⟩ := si
  subst z1 z2
  have sw : s_w = w := sw
  have sll : s_l = l := sll
  subst sw sll
  obtain ⟨cdp, cep⟩ := canon_cd cp pm
  have spl : s_ps.length ≤ cs.length := spl
  clear te msm hd opl osm
  refine t_dnew (ρ1 := [V (.list (ns.map .int)), V (.int f), V (.tuple [.int s_w, .int s_l]), V (.int m), V (.int q), V (e6 ⟨s_w, s_l, s_h, s_t, s_ps, nI [], []⟩), V (e6 so), s7, V P1, V (.int e), V (e6 sm), DD (tI []), none, none, none, none]) (by rfl) ?_
  refine t_forT (vs := [14, 15]) s_ps (fun p => [.int p.1, .int p.2]) (p := .tuple (s_ps.map e2)) (ρ1 := [V (.list (ns.map .int)), V (.int f), V (.tuple [.int s_w, .int s_l]), V (.int m), V (.int q), V (e6 ⟨s_w, s_l, s_h, s_t, s_ps, nI [], []⟩), V (e6 so), s7, V P1, V (.int e), V (e6 sm), DD (tI []), none, none, none, none]) (I := fun i ρ => ∃ (s6 : Option PyData) (s9 : Sl), ρ = [V (.list (ns.map .int)), V (.int f), V (.tuple [.int s_w, .int s_l]), V (.int m), V (.int q), V (e6 ⟨s_w, s_l, s_h, s_t, s_ps, nI [], []⟩), V (e6 so), s7, V P1, V (.int e), V (e6 sm), DD (tI (s_ps.take i)), none, none, slD s6, s9]) (K := fun _ => False) (by rfl) (.inl rfl) (by rfl) ⟨none, none, rfl⟩ ?_ (fun _ h => h.elim) ?_
  · rintro i p ρ hi ⟨s6, s9, rfl⟩
    refine ⟨_, rfl, ?_⟩
    simp only [List.set_cons_zero, List.set_cons_succ]
    refine t_dput (p := .int p.2) (j := p.1) (l := tI (s_ps.take i)) (ρ1 := [V (.list (ns.map .int)), V (.int f), V (.tuple [.int s_w, .int s_l]), V (.int m), V (.int q), V (e6 ⟨s_w, s_l, s_h, s_t, s_ps, nI [], []⟩), V (e6 so), s7, V P1, V (.int e), V (e6 sm), DD (tI (s_ps.take (i + 1))), none, none, V (.int p.1), V (.int p.2)]) (by rfl) (by rfl) (by rfl) (scs_tI _) rfl (by unfold tI; rw [List.length_map, List.length_take]; omega) (by rw [putI_tI, put_take cp hi]; rfl) (t_nil ⟨some (.int p.1), _, rfl⟩)
  rintro ρ ⟨s6, s8, rfl⟩
  rw [List.take_length]
  obtain ⟨j0, ej0, j0l⟩ := nn (f / 13) ((m : Int) - 1) (by omega)
  obtain ⟨j, hj⟩ : ∃ j, j = 1 + j0 := ⟨_, rfl⟩
  have jm : 1 ≤ j ∧ j < m := by omega
  have blt : 2 ^ j < 2 ^ m := Nat.pow_lt_pow_right (by decide) jm.2
  have bi : ((2 ^ j : Nat) : Int) < 2 ^ m := by rw [← pow_int m]; exact Int.ofNat_lt.mpr blt
  have eb : evE Φ (.bin .shl (.cst (.int 1)) (.bin .add (.cst (.int 1)) (.bin .mod (.bin .fdiv (.var 1) (.cst (.int 13))) (.bin .sub (.var 3) (.cst (.int 1)))))) [V (.list (ns.map .int)), V (.int f), V (.tuple [.int s_w, .int s_l]), V (.int m), V (.int q), V (e6 ⟨s_w, s_l, s_h, s_t, s_ps, nI [], []⟩), V (e6 so), s7, V P1, V (.int e), V (e6 sm), DD (tI s_ps), none, none, slD s6, s8] = .ok (.int ((2 ^ j : Nat) : Int)) := by
    have a1 : evE Φ (.bin .fdiv (.var 1) (.cst (.int 13))) [V (.list (ns.map .int)), V (.int f), V (.tuple [.int s_w, .int s_l]), V (.int m), V (.int q), V (e6 ⟨s_w, s_l, s_h, s_t, s_ps, nI [], []⟩), V (e6 so), s7, V P1, V (.int e), V (e6 sm), DD (tI s_ps), none, none, slD s6, s8] = .ok (.int (f / 13)) := fdD f 13 (by decide) (by decide)
    have a2 : evE Φ (.bin .sub (.var 3) (.cst (.int 1))) [V (.list (ns.map .int)), V (.int f), V (.tuple [.int s_w, .int s_l]), V (.int m), V (.int q), V (e6 ⟨s_w, s_l, s_h, s_t, s_ps, nI [], []⟩), V (e6 so), s7, V P1, V (.int e), V (e6 sm), DD (tI s_ps), none, none, slD s6, s8] = .ok (.int ((m : Int) - 1)) := by rfl
    have a3 : evE Φ (.bin .mod (.bin .fdiv (.var 1) (.cst (.int 13))) (.bin .sub (.var 3) (.cst (.int 1)))) [V (.list (ns.map .int)), V (.int f), V (.tuple [.int s_w, .int s_l]), V (.int m), V (.int q), V (e6 ⟨s_w, s_l, s_h, s_t, s_ps, nI [], []⟩), V (e6 so), s7, V P1, V (.int e), V (e6 sm), DD (tI s_ps), none, none, slD s6, s8] = .ok (.int j0) := by
      rw [e_bin, a1, bind_ok, a2, bind_ok, ← ej0]
      exact mdD (f / 13) ((m : Int) - 1) (by omega)
    have a4 : evE Φ (.bin .add (.cst (.int 1)) (.bin .mod (.bin .fdiv (.var 1) (.cst (.int 13))) (.bin .sub (.var 3) (.cst (.int 1))))) [V (.list (ns.map .int)), V (.int f), V (.tuple [.int s_w, .int s_l]), V (.int m), V (.int q), V (e6 ⟨s_w, s_l, s_h, s_t, s_ps, nI [], []⟩), V (e6 so), s7, V P1, V (.int e), V (e6 sm), DD (tI s_ps), none, none, slD s6, s8] = .ok (.int j) := by
      rw [e_bin, a3]
      show R.ok (PyData.int (1 + (j0 : Int))) = _
      rw [hj]; congr 2
    rw [e_bin, a4]
    exact shl_nn (by omega)
  have d1 := addD_ok cdp (Int.natCast_nonneg (2 ^ j)) bi e
  have nl1 := addD_len s_ps ((2 ^ j : Nat) : Int) e
  have av := fun (B : Nat) (hB : B % 2 = 1) => add_val cdp s_t e blt hB
  refine t_crfv (l := tI s_ps) (p0 := .int s_t) (ps := [.int ((2 ^ j : Nat) : Int), .int e]) (l' := tI (addD s_ps ((2 ^ j : Nat) : Int) e)) (q := .int (adT s_t ((2 ^ j : Nat) : Int) e)) (ρ1 := [V (.list (ns.map .int)), V (.int f), V (.tuple [.int s_w, .int s_l]), V (.int m), V (.int q), V (e6 ⟨s_w, s_l, s_h, s_t, s_ps, nI [], []⟩), V (e6 so), s7, V P1, V (.int e), V (e6 sm), DD (tI (addD s_ps ((2 ^ j : Nat) : Int) e)), V (.int (adT s_t ((2 ^ j : Nat) : Int) e)), none, slD s6, s8]) (by rfl) (scs_tI _) (by rfl) (by rw [es_cons, eb]; rfl) rfl (h6 s_t s_ps _ e (by omega)) (scs_tI _) (isM_tI _) rfl (by rfl) ?_
  obtain ⟨c1, c2, c3, c4⟩ := canD_ok d1
  generalize addD s_ps ((2 ^ j : Nat) : Int) e = tl' at *
  have t8 : 0 ≤ adT s_t ((2 ^ j : Nat) : Int) e ∧ adT s_t ((2 ^ j : Nat) : Int) e < 8 := ⟨Int.emod_nonneg _ (by decide), Int.emod_lt_of_pos _ (by decide)⟩
  generalize adT s_t ((2 ^ j : Nat) : Int) e = t' at *
  have cpr : evE Φ (.comp [14] (.nm 14) .seq [.dsrt (.var 11)] (some (.cmp .gt (.dget (.var 11) (.var 14)) (.cst (.int 0)))) (.tup [.var 14, .dget (.var 11) (.var 14)])) [V (.list (ns.map .int)), V (.int f), V (.tuple [.int s_w, .int s_l]), V (.int m), V (.int q), V (e6 ⟨s_w, s_l, s_h, s_t, s_ps, nI [], []⟩), V (e6 so), s7, V P1, V (.int e), V (e6 sm), DD (tI tl'), V (.int t'), none, slD s6, s8] = .ok (.list ((canD tl').map e2)) := by
    have dg : ∀ x, x ∈ sortI (tl'.map (·.1)) → evE Φ (.dget (.var 11) (.var 14)) [V (.list (ns.map .int)), V (.int f), V (.tuple [.int s_w, .int s_l]), V (.int m), V (.int q), V (e6 ⟨s_w, s_l, s_h, s_t, s_ps, nI [], []⟩), V (e6 so), s7, V P1, V (.int e), V (e6 sm), DD (tI tl'), V (.int t'), none, V (.int x), s8] = .ok (.int (vz tl' x)) := fun x hx => by
      rw [e_dget]
      show ((dictV (.dict (dL (tI tl')))).bind fun l => dgetV l x) = _
      rw [dictV_dL (scs_tI tl'), bind_ok, dg_tI ((sortI_perm _).mem_iff.mp hx)]
    refine (ev_compF (own := [14]) (v := 14) (e := (.dsrt (.var 11))) (ρ := [V (.list (ns.map .int)), V (.int f), V (.tuple [.int s_w, .int s_l]), V (.int m), V (.int q), V (e6 ⟨s_w, s_l, s_h, s_t, s_ps, nI [], []⟩), V (e6 so), s7, V P1, V (.int e), V (e6 sm), DD (tI tl'), V (.int t'), none, slD s6, s8]) (sortI (tl'.map (·.1))) PyData.int (p := .list ((sortI (tl'.map (·.1))).map .int)) (ρ1 := [V (.list (ns.map .int)), V (.int f), V (.tuple [.int s_w, .int s_l]), V (.int m), V (.int q), V (e6 ⟨s_w, s_l, s_h, s_t, s_ps, nI [], []⟩), V (e6 so), s7, V P1, V (.int e), V (e6 sm), DD (tI tl'), V (.int t'), none, none, s8]) (t := fun k => decide (0 < vz tl' k)) (g := fun k => e2 (k, vz tl' k)) ?_ (.inr rfl) (by cases s6 <;> rfl) ?_ (by rfl) (fun x hx => ?_) fun x hx _ => ?_).trans ?_
    · rw [e_dsrt]
      show ((dictV (.dict (dL (tI tl')))).bind dsrtV) = _
      rw [dictV_dL (scs_tI tl'), bind_ok, dsrt_ok (by unfold tI; rw [List.length_map]; omega), keys_tI]
    · rw [(sortI_perm _).length_eq, List.length_map]; omega
    · show evE Φ (.cmp .gt (.dget (.var 11) (.var 14)) (.cst (.int 0))) [V (.list (ns.map .int)), V (.int f), V (.tuple [.int s_w, .int s_l]), V (.int m), V (.int q), V (e6 ⟨s_w, s_l, s_h, s_t, s_ps, nI [], []⟩), V (e6 so), s7, V P1, V (.int e), V (e6 sm), DD (tI tl'), V (.int t'), none, V (.int x), s8] = _
      rw [e_cmp, dg x hx]; exact cm_gt
    · show evE Φ (.tup [.var 14, .dget (.var 11) (.var 14)]) [V (.list (ns.map .int)), V (.int f), V (.tuple [.int s_w, .int s_l]), V (.int m), V (.int q), V (e6 ⟨s_w, s_l, s_h, s_t, s_ps, nI [], []⟩), V (e6 so), s7, V P1, V (.int e), V (e6 sm), DD (tI tl'), V (.int t'), none, V (.int x), s8] = _
      rw [e_tup, es_cons, es_cons, dg x hx]; rfl
    · unfold canD
      rw [List.map_map]; rfl
  refine t_asg_n (p := .tuple ((canD tl').map e2)) (ρ1 := [V (.list (ns.map .int)), V (.int f), V (.tuple [.int s_w, .int s_l]), V (.int m), V (.int q), V (e6 ⟨s_w, s_l, s_h, s_t, s_ps, nI [], []⟩), V (e6 so), s7, V P1, V (.int e), V (e6 sm), DD (tI tl'), V (.int t'), V (.tuple ((canD tl').map e2)), slD s6, s8]) (ev_tuple cpr) (nl_e2s _) (by rfl) ?_
  have fi : SIn m ⟨s_w, s_l, s_h, t', canD tl', nI [], []⟩ [] := ⟨rfl, rfl, c1, t8, by show (canD tl').length ≤ 200; omega, Nat.zero_le _, c2, fun t ht => by cases ht⟩
  obtain ⟨P4, p4, f4⟩ := h2 m _ [] (by omega) fi
  refine t_ret (p := .bool true) ?_ (by rfl)
  have a1 : evE Φ (.call 89 false [.tup [.var 2, .idx (.var 5) (.cst (.int 1)), .var 12, .var 13, .tup [], .tup []]] []) [V (.list (ns.map .int)), V (.int f), V (.tuple [.int s_w, .int s_l]), V (.int m), V (.int q), V (e6 ⟨s_w, s_l, s_h, s_t, s_ps, nI [], []⟩), V (e6 so), s7, V P1, V (.int e), V (e6 sm), DD (tI tl'), V (.int t'), V (.tuple ((canD tl').map e2)), slD s6, s8] = .ok P4 := f4
  have a2 : evE Φ (.var 8) [V (.list (ns.map .int)), V (.int f), V (.tuple [.int s_w, .int s_l]), V (.int m), V (.int q), V (e6 ⟨s_w, s_l, s_h, s_t, s_ps, nI [], []⟩), V (e6 so), s7, V P1, V (.int e), V (e6 sm), DD (tI tl'), V (.int t'), V (.tuple ((canD tl').map e2)), slD s6, s8] = .ok P1 := by rfl
  rw [e_cmp, a1, bind_ok, a2, bind_ok]
  have k0 : kpN [] = [] := List.length_eq_zero_iff.mp (by have := kp_len []; rw [List.length_nil] at this; omega)
  have no1 : 1 ∉ kpN [] := by rw [k0]; exact List.not_mem_nil
  rcases p4 with ⟨z, _⟩ | ⟨_, T4, fm4, td4, rfl⟩
  · exact absurd z no1
  rcases p1 with ⟨z, _⟩ | ⟨_, T1, fm1, td1, rfl⟩
  · exact absurd z no1
  refine cm_ne_not (sS_eset _ _ _ _) (sS_eset _ _ _ _) fun z => ?_
  obtain ⟨x1, x2⟩ := eset_inj z
  subst x1 x2
  obtain ⟨B, hB⟩ : ∃ B, B = setN [(j : Int)] := ⟨_, rfl⟩
  have bo : B % 2 = 1 := by
    have y := setN_bit [(j : Int)] 0
    rw [Nat.testBit_zero, ← hB] at y
    exact of_decide_eq_true (y.trans (decide_eq_true (.inl rfl)))
  have bj : B.testBit j = true := by
    rw [hB, setN_bit]
    exact decide_eq_true (.inr ⟨_, List.mem_singleton.mpr rfl, Int.toNat_natCast j⟩)
  have zz : Zero B (kpN []) := by rw [k0]; intro t ht; cases ht
  have y1 := td1.val B bo zz
  have y4 := td4.val B bo zz
  have y := av B bo
  have one : odv ((2 ^ j : Nat) : Int) B = 1 := by
    rw [odv_vN, vN_comm, vN_bit (by omega), if_pos bj]; rfl
  rw [one, Int.mul_one, cep] at y
  have y1 : (T4 + sQ (prodL (oneB B)) fm4 - (s_t + sW (odv · B) s_ps)) % 8 = 0 := y1
  have y4 : (T4 + sQ (prodL (oneB B)) fm4 - (t' + sW (odv · B) (canD tl'))) % 8 = 0 := y4
  generalize sQ (prodL (oneB B)) fm4 = g1 at *
  generalize sW (odv · (B : Int)) s_ps = g2 at *
  generalize sW (odv · (B : Int)) (canD tl') = g3 at *
  clear av
  omega
theorem k_put_in_78 : ∀ n, 1 ≤ n → Sp_put_in (call prg.tab 1000000 n 78) := fun n h => by
  obtain ⟨m, rfl⟩ : ∃ m, n = m + 1 := ⟨n - 1, by omega⟩
  rw [call_fn t_put_in]
  exact s_put_in _
theorem k_added_1 : ∀ n, 2 ≤ n → Sp_added (call prg.tab 1000000 n 1) := fun n h => by
  obtain ⟨m, rfl⟩ : ∃ m, n = m + 1 := ⟨n - 1, by omega⟩
  rw [call_fn t_added]
  exact s_added _ (k_put_in_78 m (by omega))
theorem k_bitsin_14 : ∀ n, 1 ≤ n → Sp_bitsin (call prg.tab 1000000 n 14) := fun n h => by
  obtain ⟨m, rfl⟩ : ∃ m, n = m + 1 := ⟨n - 1, by omega⟩
  rw [call_fn t_bits_in]
  exact s_bitsin _
theorem k_partsof_73 : ∀ n, 1 ≤ n → Sp_partsof (call prg.tab 1000000 n 73) := fun n h => by
  obtain ⟨m, rfl⟩ : ∃ m, n = m + 1 := ⟨n - 1, by omega⟩
  rw [call_fn t_parts_of]
  exact s_partsof _
theorem k_form_38 : ∀ n, 2 ≤ n → Sp_form (call prg.tab 1000000 n 38) := fun n h => by
  obtain ⟨m, rfl⟩ : ∃ m, n = m + 1 := ⟨n - 1, by omega⟩
  rw [call_fn t_form_of]
  exact s_form _ (k_bitsin_14 m (by omega)) (k_partsof_73 m (by omega))
theorem k_lead_55 : ∀ n, 1 ≤ n → Sp_lead (call prg.tab 1000000 n 55) := fun n h => by
  obtain ⟨m, rfl⟩ : ∃ m, n = m + 1 := ⟨n - 1, by omega⟩
  rw [call_fn t_lead_of]
  exact s_lead _
theorem k_wl_134 : ∀ n, 2 ≤ n → Sp_wl (call prg.tab 1000000 n 134) := fun n h => by
  obtain ⟨m, rfl⟩ : ∃ m, n = m + 1 := ⟨n - 1, by omega⟩
  rw [call_fn t_without_lead]
  exact s_wl _ (k_lead_55 m (by omega))
theorem k_reduced_82 : ∀ n, 3 ≤ n → Sp_reduced (call prg.tab 1000000 n 82) := fun n h => by
  obtain ⟨m, rfl⟩ : ∃ m, n = m + 1 := ⟨n - 1, by omega⟩
  rw [call_fn t_reduced]
  exact s_reduced _ (k_wl_134 m (by omega))
theorem k_settled54_89 : ∀ n, 4 ≤ n → Sp_settled54 (call prg.tab 1000000 n 89) := fun n h => by
  obtain ⟨m, rfl⟩ : ∃ m, n = m + 1 := ⟨n - 1, by omega⟩
  rw [call_fn t_settled_sum]
  exact s_settled54 _ (k_wl_134 m (by omega)) (k_reduced_82 m (by omega)) (k_added_1 m (by omega)) (k_form_38 m (by omega))
theorem k_ladded_1001 : ∀ n, 1 ≤ n → Sp_ladded (call prg.tab 1000000 n 1001) := fun n h => by
  obtain ⟨m, rfl⟩ : ∃ m, n = m + 1 := ⟨n - 1, by omega⟩
  rw [call_fn t__law_added]
  exact s_ladded _
theorem k_lsum_1141 : ∀ n, 2 ≤ n → Sp_lsum (call prg.tab 1000000 n 1141) := fun n h => by
  obtain ⟨m, rfl⟩ : ∃ m, n = m + 1 := ⟨n - 1, by omega⟩
  rw [call_fn t__law_sum]
  exact s_lsum _ (k_ladded_1001 m (by omega))
theorem k_tied55_1149 : ∀ n, 1 ≤ n → Sp_tied55 (call prg.tab 1000000 n 1149) := fun n h => by
  obtain ⟨m, rfl⟩ : ∃ m, n = m + 1 := ⟨n - 1, by omega⟩
  rw [call_fn t__law_tied]
  exact s_tied55 _
theorem k_exch55_1038 : ∀ n, 2 ≤ n → Sp_exch55 (call prg.tab 1000000 n 1038) := fun n h => by
  obtain ⟨m, rfl⟩ : ∃ m, n = m + 1 := ⟨n - 1, by omega⟩
  rw [call_fn t__law_exchanged]
  exact s_exch55 _ (k_ladded_1001 m (by omega))
theorem k_shift55_1126 : ∀ n, 1 ≤ n → Sp_shift55 (call prg.tab 1000000 n 1126) := fun n h => by
  obtain ⟨m, rfl⟩ : ∃ m, n = m + 1 := ⟨n - 1, by omega⟩
  rw [call_fn t__law_shifted]
  exact s_shift55 _
 
/- without a link: ; waiting:  -/
theorem main (ns : List Int) (hl : ns.length ≤ 63) : call prg.tab 1000000 60 1178 [.list (ns.map .int)] = .ok (.bool true) := by
  rw [call_fn t_law]
  exact s_law55 _ (k_lsum_1141 _ (by omega)) (k_settled54_89 _ (by omega)) (k_tied55_1149 _ (by omega)) (k_exch55_1038 _ (by omega)) (k_shift55_1126 _ (by omega)) (k_ladded_1001 _ (by omega)) ns hl
end
end L2.Pu.Law
open PySem PySem.W PySem.Calls PyProof.Rows
set_option maxRecDepth 100000 in
set_option maxHeartbeats 0 in
theorem PySem.Challenge.cw_wavewires_k55_settled_alike_holds : PySem.Challenge.rw_wavewires_k55_settled_alike.Holds := by
  w_on; o_law
  refine HandSHeadRun.head_any (r := OpenLaw.row PySem.Challenge.rw_wavewires_k55_settled_alike) (q := view (OpenLaw.row PySem.Challenge.rw_wavewires_k55_settled_alike).prog [23]) (H := L2.Pu.Law.prg.hook) (ob := L2.Pu.Law.prg.ob) (M := 6000) (loose := ["WaveError", "StillHidden", "put_in", "added", "WORTHS", "bits_in", "parts_of", "form_of", "lead_of", "without_lead", "reduced", "settled_sum", "_law_added", "_law_sum", "_law_value", "_law_rest", "_law_tied", "_law_exchanged", "_law_shifted"]) (d := HandSHeadRun.topDef (OpenLaw.row PySem.Challenge.rw_wavewires_k55_settled_alike).prog 23) (kwd := []) L2.Pu.Law.prg.ob_eq
    (by kernel_rfl) (fun s => by kernel_rfl) L2.Pu.Law.head_run (by kernel_rfl) (by kernel_rfl) (by kernel_rfl) (by rfl) (by first | assumption | decide +kernel) (by decide +kernel) ⟨rfl, rfl, rfl, rfl, rfl, by decide +kernel⟩ ?hw ?hc
  case hw => w_witness2
  case hc =>
    refine L2.walk_ofE (l := PySem.Challenge.rw_wavewires_k55_settled_alike) (n := 63) (k := 180) (x := "script") (CX := L2.CX0) rfl (by decide) (by kernel_rfl) ⟨rfl, by decide, by decide⟩ ?F (fun _ _ _ _ z => z)
    intro w mg fa h Y G hmg0
    obtain ⟨K, KX, c⟩ := Y
    have hmg : mg L2.Pu.Law.d_law.x = some (.ref fa) := by
      have e : (HandSHeadRun.topDef (OpenLaw.row PySem.Challenge.rw_wavewires_k55_settled_alike).prog 23).name = L2.Pu.Law.d_law.x := by kernel_rfl
      rw [← e]
      exact hmg0
    obtain ⟨fd, hb, hF⟩ := L2.Pu.head_law L2.Pu.Law.prg_good L2.Pu.Law.prg_wv L2.Pu.Law.prg_shape 1000000 60 (pr := (PySem.Challenge.rw_wavewires_k55_settled_alike).prog) (w := w) KX G c (d := L2.Pu.Law.d_law) (by unfold L2.Pu.Law.prg; simp) hmg rfl rfl L2.Pu.Law.main
    exact ⟨K, fd, L2.Pu.spLaw K, KX, hb, fun H a ns hl _ hS => ⟨a, ns, rfl, hS, hl, fun _ => rfl⟩, hF⟩
